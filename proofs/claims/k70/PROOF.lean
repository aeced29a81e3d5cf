import PyProof.Rows.All
import Wide.All
import OpenK.AllK
import Wide.FinOn
import HandS.Base
import HandS.Call
import HandS.List
import HandS.Comp
import HandS.Ends
import HandS.Dict
import HandS.Iter
import HandS.Words
import HandS.Wide
import HandS.WideBits
import HandS.Defaults
import HandS.IsInst
import HandS.SortInts
import HandS.Strs
import HandS.TupAny
import HandS.Steps
import HandS.Set
import HandS.SetFor
import KE.KItemsList
import HandS.SortOrd
import HandS.SortRule
import HandS.ListItems
import HandS.MakeKwOnly
import PyProof.Rows.SortShellAny
import PyProof.Rows.SortStr
import PyProof.Rows.StrMeet
import HandS.OwnEq
import HandS.DeepEq
import HandS.DictComp
import PyProof.InstNe
import HandS.Style
import HandS.RaiseMore
import PyProof.ReprRoads
import HandS.ExcInit
import HandS.ClsMeth
import HandS.ExcField
import HandS.ExcIs
import KE.KExcIs
import HandS.ExcValue
import PyProof.StrOps2
import HandS.CallSlots
import HandS.ExcOwn
import HandS.TryOnly
import HandS.WordsExc
import KE.KTryMore
import PyProof.EqKinds
import HandS.HeadHook2
import PySem.Challenge.RW_cellplaces_k70_rings_refused
set_option Elab.async false
set_option linter.all false
set_option maxRecDepth 100000
set_option maxHeartbeats 4000000

set_option autoImplicit false
/-! the rings' numbers in plain Lean: prime factors, units, orders -/
namespace CP
namespace Rm

def Pr (p : Nat) : Prop := 2 ≤ p ∧ ∀ d, d ∣ p → d = 1 ∨ d = p

/-- v divided by p as often as it goes: the p's, what is left -/
def inner (p v : Nat) : List Nat × Nat :=
  if h : 2 ≤ p ∧ 0 < v ∧ v % p = 0 then (p :: (inner p (v / p)).1, (inner p (v / p)).2) else ([], v)
termination_by v
decreasing_by all_goals exact Nat.div_lt_self h.2.1 h.1

theorem inner_yes {p v : Nat} (h : 2 ≤ p ∧ 0 < v ∧ v % p = 0) : inner p v = (p :: (inner p (v / p)).1, (inner p (v / p)).2) := by
  rw [inner, dif_pos h]
theorem inner_no {p v : Nat} (h : ¬ (2 ≤ p ∧ 0 < v ∧ v % p = 0)) : inner p v = ([], v) := by
  rw [inner, dif_neg h]

theorem inner_le (p v : Nat) : (inner p v).2 ≤ v := by
  induction v using Nat.strongRecOn with
  | ind v ih =>
    by_cases h : 2 ≤ p ∧ 0 < v ∧ v % p = 0
    · rw [inner_yes h]
      exact Nat.le_trans (ih (v / p) (Nat.div_lt_self h.2.1 h.1)) (Nat.div_le_self v p)
    · rw [inner_no h]; exact Nat.le_refl _

theorem sq_lt {p v : Nat} (h : 2 ≤ p ∧ p * p ≤ v) : p < v := by
  have := Nat.mul_le_mul_right p h.1
  omega

def outer (p v : Nat) : List Nat :=
  if h : 2 ≤ p ∧ p * p ≤ v then (inner p v).1 ++ outer (p + 1) (inner p v).2 else if v > 1 then [v] else []
termination_by v - p
decreasing_by
  have := inner_le p v
  have := sq_lt h
  omega
theorem outer_yes {p v : Nat} (h : 2 ≤ p ∧ p * p ≤ v) : outer p v = (inner p v).1 ++ outer (p + 1) (inner p v).2 := by
  rw [outer, dif_pos h]
theorem outer_no {p v : Nat} (h : ¬ (2 ≤ p ∧ p * p ≤ v)) : outer p v = if v > 1 then [v] else [] := by
  rw [outer, dif_neg h]
def pf (v : Nat) : List Nat := outer 2 v

theorem inner_spec {p : Nat} (hp : 2 ≤ p) (v : Nat) (hv : 0 < v) : ∃ k, (inner p v).1 = List.replicate k p ∧ v = p ^ k * (inner p v).2 ∧ 0 < (inner p v).2 ∧ (inner p v).2 % p ≠ 0 := by
  induction v using Nat.strongRecOn with
  | ind v ih =>
    by_cases h : 2 ≤ p ∧ 0 < v ∧ v % p = 0
    · have e : v = p * (v / p) := (Nat.mul_div_cancel' (Nat.dvd_of_mod_eq_zero h.2.2)).symm
      have hq : 0 < v / p := Nat.div_pos (Nat.le_of_dvd hv (Nat.dvd_of_mod_eq_zero h.2.2)) (by omega)
      obtain ⟨k, h1, h2, h3, h4⟩ := ih (v / p) (Nat.div_lt_self h.2.1 h.1) hq
      refine ⟨k + 1, ?_, ?_, ?_, ?_⟩
      · rw [inner_yes h]; show p :: _ = _; rw [h1]; rfl
      · rw [inner_yes h]; show v = p ^ (k + 1) * (inner p (v / p)).2
        rw [Nat.pow_succ, Nat.mul_comm (p ^ k) p, Nat.mul_assoc, ← h2]; exact e
      · rw [inner_yes h]; exact h3
      · rw [inner_yes h]; exact h4
    · rw [inner_no h]
      exact ⟨0, rfl, by simp, hv, fun z => h ⟨hp, hv, z⟩⟩

/-- no small divisors -/
def NoDiv (p v : Nat) : Prop := ∀ d, 2 ≤ d → d < p → ¬ d ∣ v
theorem NoDiv.pr {p v : Nat} (hp : 2 ≤ p) (h : NoDiv p v) (hd : p ∣ v) : Pr p := by
  refine ⟨hp, fun d hdp => ?_⟩
  have hle := Nat.le_of_dvd (by omega) hdp
  have h0 : d ≠ 0 := fun z => by subst z; rw [Nat.zero_dvd] at hdp; omega
  by_cases h1 : d = 1
  · exact .inl h1
  · by_cases h2 : d = p
    · exact .inr h2
    · exact absurd (Nat.dvd_trans hdp hd) (h d (by omega) (by omega))
theorem NoDiv.last {p v : Nat} (h : NoDiv p v) (hl : v < p * p) (hv : 1 < v) : Pr v := by
  refine ⟨hv, fun d hd => ?_⟩
  obtain ⟨e, he⟩ := hd
  have h0 : d ≠ 0 := fun z => by subst z; simp at he; omega
  have e0 : e ≠ 0 := fun z => by subst z; simp at he; omega
  by_cases h1 : d = 1
  · exact .inl h1
  · by_cases h2 : e = 1
    · right; rw [he, h2, Nat.mul_one]
    · exfalso
      by_cases hdp : d < p
      · exact h d (by omega) hdp ⟨e, he⟩
      · have hep : e < p := by
          apply Nat.lt_of_not_le
          intro hpe
          have := Nat.mul_le_mul (Nat.le_of_not_lt hdp) hpe
          omega
        exact h e (by omega) hep ⟨d, by rw [he, Nat.mul_comm]⟩

theorem prod_rep (k p : Nat) : (List.replicate k p).prod = p ^ k := by
  induction k with
  | zero => simp
  | succ k ih => rw [List.replicate_succ, List.prod_cons, ih, Nat.pow_succ, Nat.mul_comm]

theorem outer_spec (p v : Nat) (hp : 2 ≤ p) (hv : 0 < v) (h : NoDiv p v) :
    (outer p v).prod = v ∧ (∀ q ∈ outer p v, Pr q ∧ p ≤ q) ∧ (outer p v).Pairwise (· ≤ ·) := by
  generalize hm : v - p = m
  induction m using Nat.strongRecOn generalizing p v with
  | ind m ih =>
    by_cases c : 2 ≤ p ∧ p * p ≤ v
    · rw [outer_yes c]
      obtain ⟨k, h1, h2, h3, h4⟩ := inner_spec hp v hv
      have hlt := sq_lt c
      have hle := inner_le p v
      have nd : NoDiv (p + 1) (inner p v).2 := by
        intro d hd hdp hdv
        by_cases e : d = p
        · subst e; exact h4 (Nat.mod_eq_zero_of_dvd hdv)
        · exact h d hd (by omega) (by rw [h2]; exact Nat.dvd_trans hdv (Nat.dvd_mul_left _ _))
      obtain ⟨i1, i2, i3⟩ := ih ((inner p v).2 - (p + 1)) (by omega) (p + 1) (inner p v).2 (by omega) h3 nd rfl
      refine ⟨?_, ?_, ?_⟩
      · rw [List.prod_append, i1, h1, prod_rep]; exact h2.symm
      · intro q hq
        rcases List.mem_append.mp hq with hq | hq
        · rw [h1] at hq
          obtain ⟨hk, e⟩ := List.mem_replicate.mp hq
          rw [e]
          refine ⟨NoDiv.pr hp h ?_, Nat.le_refl _⟩
          obtain ⟨j, rfl⟩ : ∃ j, k = j + 1 := ⟨k - 1, by omega⟩
          rw [h2, Nat.pow_succ, Nat.mul_comm (p ^ j) p, Nat.mul_assoc]
          exact Nat.dvd_mul_right _ _
        · exact ⟨(i2 q hq).1, by have := (i2 q hq).2; omega⟩
      · rw [List.pairwise_append]
        refine ⟨?_, i3, ?_⟩
        · rw [h1, List.pairwise_replicate]; right; exact Nat.le_refl _
        · intro a ha b hb
          rw [h1] at ha
          rw [(List.mem_replicate.mp ha).2]
          have := (i2 b hb).2
          omega
    · rw [outer_no c]
      have hl : v < p * p := by
        apply Nat.lt_of_not_le
        intro z
        exact c ⟨hp, z⟩
      by_cases c1 : v > 1
      · rw [if_pos c1]
        refine ⟨by simp, fun q hq => ?_, by simp⟩
        have e : q = v := by simpa using hq
        rw [e]
        refine ⟨h.last hl c1, ?_⟩
        apply Nat.le_of_not_lt
        intro z
        exact h v c1 z (Nat.dvd_refl v)
      · rw [if_neg c1]
        exact ⟨by simp; omega, fun q hq => by simp at hq, by simp⟩
theorem pf_spec (v : Nat) (hv : 0 < v) : (pf v).prod = v ∧ (∀ q ∈ pf v, Pr q) ∧ (pf v).Pairwise (· ≤ ·) := by
  obtain ⟨a, b, c⟩ := outer_spec 2 v (by omega) hv (fun d h1 h2 => by omega)
  exact ⟨a, fun q hq => (b q hq).1, c⟩
theorem pf_zero : pf 0 = [] := by
  unfold pf; rw [outer_no (by omega)]; rfl
theorem pf_pr {v q : Nat} (h : q ∈ pf v) : Pr q := by
  by_cases hv : 0 < v
  · exact (pf_spec v hv).2.1 q h
  · have e : v = 0 := by omega
    subst e; rw [pf_zero] at h; cases h
theorem dvd_prod {l : List Nat} {q : Nat} (h : q ∈ l) : q ∣ l.prod := by
  induction l with
  | nil => cases h
  | cons a l ih =>
    rw [List.prod_cons]
    rcases List.mem_cons.mp h with e | h
    · subst e; exact Nat.dvd_mul_right _ _
    · exact Nat.dvd_trans (ih h) (Nat.dvd_mul_left _ _)
theorem pf_dvd {v q : Nat} (h : q ∈ pf v) : q ∣ v := by
  by_cases hv : 0 < v
  · have := dvd_prod h; rwa [(pf_spec v hv).1] at this
  · have e : v = 0 := by omega
    subst e; exact Nat.dvd_zero _

/-! ### lengths -/
theorem two_pow_le {l : List Nat} (h : ∀ q ∈ l, 2 ≤ q) : 2 ^ l.length ≤ l.prod := by
  induction l with
  | nil => simp
  | cons a l ih =>
    rw [List.length_cons, Nat.pow_succ, List.prod_cons, Nat.mul_comm]
    exact Nat.mul_le_mul (h a (List.mem_cons_self ..)) (ih fun q hq => h q (List.mem_cons_of_mem _ hq))
theorem pf_length (v : Nat) (hv : 0 < v) : 2 ^ (pf v).length ≤ v := by
  obtain ⟨a, b, _⟩ := pf_spec v hv
  have := two_pow_le (l := pf v) fun q hq => (b q hq).1
  rwa [a] at this

/-! ### coprime primes -/
theorem Pr.cop {p q : Nat} (hp : Pr p) (hq : Pr q) (h : p ≠ q) : Nat.Coprime p q := by
  show Nat.gcd p q = 1
  rcases hp.2 _ (Nat.gcd_dvd_left p q) with e | e
  · exact e
  · exfalso
    have := Nat.gcd_dvd_right p q
    rw [e] at this
    rcases hq.2 _ this with e' | e'
    · have := hp.1; omega
    · exact h e'
theorem Pr.cop_of {p n : Nat} (hp : Pr p) (h : ¬ p ∣ n) : Nat.Coprime p n := by
  show Nat.gcd p n = 1
  rcases hp.2 _ (Nat.gcd_dvd_left p n) with e | e
  · exact e
  · exfalso
    have := Nat.gcd_dvd_right p n
    rw [e] at this
    exact h this
theorem Pr.dvd_mul {p a b : Nat} (hp : Pr p) (h : p ∣ a * b) : p ∣ a ∨ p ∣ b := by
  by_cases c : p ∣ a
  · exact .inl c
  · exact .inr ((hp.cop_of c).dvd_of_dvd_mul_left h)
theorem Pr.dvd_prod {p : Nat} (hp : Pr p) {l : List Nat} (h : p ∣ l.prod) : ∃ q ∈ l, p ∣ q := by
  induction l with
  | nil =>
    have : p ∣ 1 := by simpa using h
    have := Nat.le_of_dvd (by omega) this
    have := hp.1
    omega
  | cons a l ih =>
    rw [List.prod_cons] at h
    rcases hp.dvd_mul h with h | h
    · exact ⟨a, List.mem_cons_self .., h⟩
    · obtain ⟨q, h1, h2⟩ := ih h
      exact ⟨q, List.mem_cons_of_mem _ h1, h2⟩
theorem cop_prod {p : Nat} {l : List Nat} (h : ∀ q ∈ l, Nat.Coprime p q) : Nat.Coprime p l.prod := by
  induction l with
  | nil => simp
  | cons a l ih =>
    rw [List.prod_cons]
    exact Nat.Coprime.mul_right (h a (List.mem_cons_self ..)) (ih fun q hq => h q (List.mem_cons_of_mem _ hq))
/-- different primes that divide a number: their product does -/
theorem prod_dvd {v : Nat} {l : List Nat} (hp : ∀ q ∈ l, Pr q) (hn : l.Nodup) (hd : ∀ q ∈ l, q ∣ v) : l.prod ∣ v := by
  induction l with
  | nil => simp
  | cons a l ih =>
    rw [List.prod_cons]
    rw [List.nodup_cons] at hn
    refine Nat.Coprime.mul_dvd_of_dvd_of_dvd (cop_prod fun q hq => ?_) (hd a (List.mem_cons_self ..)) (ih (fun q hq => hp q (List.mem_cons_of_mem _ hq)) hn.2 fun q hq => hd q (List.mem_cons_of_mem _ hq))
    exact (hp a (List.mem_cons_self ..)).cop (hp q (List.mem_cons_of_mem _ hq)) fun e => hn.1 (e ▸ hq)

/-! ### units -/
def unitsTo (v : Nat) (f : Nat) (l : List Nat) : Nat := l.foldl (fun f p => if v % p = 0 then f / p * (p - 1) else f) f
def units (v : Nat) (l : List Nat) : Nat := unitsTo v v l
theorem unitsTo_pos {v : Nat} {l : List Nat} (hp : ∀ q ∈ l, Pr q) (f : Nat) (hf : 0 < f) (hd : (l.filter fun p => decide (v % p = 0)).prod ∣ f) : 0 < unitsTo v f l := by
  induction l generalizing f with
  | nil => exact hf
  | cons a l ih =>
    have ha := hp a (List.mem_cons_self ..)
    show 0 < unitsTo v (if v % a = 0 then f / a * (a - 1) else f) l
    by_cases c : v % a = 0
    · rw [List.filter_cons_of_pos (by simpa using c), List.prod_cons] at hd
      rw [if_pos c]
      have h1 : a ∣ f := Nat.dvd_trans (Nat.dvd_mul_right _ _) hd
      have h2 : 0 < f / a := Nat.div_pos (Nat.le_of_dvd hf h1) (by have := ha.1; omega)
      refine ih (fun q hq => hp q (List.mem_cons_of_mem _ hq)) _ (Nat.mul_pos h2 (by have := ha.1; omega)) ?_
      refine Nat.dvd_trans ?_ (Nat.dvd_mul_right _ _)
      exact (Nat.dvd_div_iff_mul_dvd h1).mpr hd
    · rw [List.filter_cons_of_neg (by simpa using c)] at hd
      rw [if_neg c]
      exact ih (fun q hq => hp q (List.mem_cons_of_mem _ hq)) _ hf hd
theorem units_pos {v : Nat} {l : List Nat} (hp : ∀ q ∈ l, Pr q) (hn : l.Nodup) (hv : 0 < v) : 0 < units v l := by
  refine unitsTo_pos hp v hv (prod_dvd (fun q hq => hp q (List.mem_filter.mp hq).1) (hn.filter _) fun q hq => ?_)
  have := (List.mem_filter.mp hq).2
  exact Nat.dvd_of_mod_eq_zero (by simpa using this)
theorem unitsTo_le {v : Nat} {l : List Nat} (f : Nat) : unitsTo v f l ≤ f := by
  induction l generalizing f with
  | nil => exact Nat.le_refl _
  | cons a l ih =>
    show unitsTo v (if v % a = 0 then f / a * (a - 1) else f) l ≤ f
    refine Nat.le_trans (ih _) ?_
    split
    · exact Nat.le_trans (Nat.mul_le_mul_left _ (Nat.sub_le a 1)) (Nat.div_mul_le_self f a)
    · exact Nat.le_refl _

/-! ### order -/
def strip (b v p : Nat) (f : Nat) : Nat :=
  if h : 2 ≤ p ∧ 0 < f ∧ f % p = 0 ∧ b ^ (f / p) % v = 1 % v then strip b v p (f / p) else f
termination_by f
decreasing_by exact Nat.div_lt_self h.2.1 h.1
theorem strip_yes {b v p f : Nat} (h : 2 ≤ p ∧ 0 < f ∧ f % p = 0 ∧ b ^ (f / p) % v = 1 % v) : strip b v p f = strip b v p (f / p) := by
  rw [strip, dif_pos h]
theorem strip_no {b v p f : Nat} (h : ¬ (2 ≤ p ∧ 0 < f ∧ f % p = 0 ∧ b ^ (f / p) % v = 1 % v)) : strip b v p f = f := by
  rw [strip, dif_neg h]
theorem strip_pos {b v p f : Nat} (hf : 0 < f) : 0 < strip b v p f ∧ strip b v p f ≤ f := by
  induction f using Nat.strongRecOn with
  | ind f ih =>
    by_cases h : 2 ≤ p ∧ 0 < f ∧ f % p = 0 ∧ b ^ (f / p) % v = 1 % v
    · rw [strip_yes h]
      have h2 : 0 < f / p := Nat.div_pos (Nat.le_of_dvd hf (Nat.dvd_of_mod_eq_zero h.2.2.1)) (by omega)
      have h3 := Nat.div_lt_self h.2.1 h.1
      have := ih _ h3 h2
      omega
    · rw [strip_no h]; omega
def ordTo (b v : Nat) (f : Nat) (parts : List Nat) : Nat := parts.foldl (fun f p => strip b v p f) f
theorem ordTo_pos {b v f : Nat} {parts : List Nat} (hf : 0 < f) : 0 < ordTo b v f parts ∧ ordTo b v f parts ≤ f := by
  induction parts generalizing f with
  | nil => exact ⟨hf, Nat.le_refl _⟩
  | cons a l ih =>
    have h := strip_pos (b := b) (v := v) (p := a) hf
    have := ih h.1
    show 0 < ordTo b v (strip b v a f) l ∧ ordTo b v (strip b v a f) l ≤ f
    omega

/-! ### sorted, without doubles -/
def ins (k : Nat) : List Nat → List Nat
  | [] => [k]
  | a :: l => if k < a then k :: a :: l else if k = a then a :: l else a :: ins k l
def uniq (l : List Nat) : List Nat := l.foldr ins []
theorem mem_ins {k x : Nat} {l : List Nat} : x ∈ ins k l ↔ x = k ∨ x ∈ l := by
  induction l with
  | nil => simp [ins]
  | cons a l ih =>
    unfold ins
    split
    · simp
    · split
      · rename_i e; subst e; simp
      · simp [ih]; constructor <;> (intro h; rcases h with h | h | h <;> simp [h])
theorem mem_uniq {x : Nat} {l : List Nat} : x ∈ uniq l ↔ x ∈ l := by
  induction l with
  | nil => simp [uniq]
  | cons a l ih =>
    show x ∈ ins a (uniq l) ↔ _
    rw [mem_ins, ih, List.mem_cons]
theorem ins_sorted {k : Nat} {l : List Nat} (h : l.Pairwise (· < ·)) : (ins k l).Pairwise (· < ·) := by
  induction l with
  | nil => simp [ins]
  | cons a l ih =>
    rw [List.pairwise_cons] at h
    unfold ins
    split
    · rename_i hk
      rw [List.pairwise_cons]
      refine ⟨fun b hb => ?_, List.pairwise_cons.mpr h⟩
      rcases List.mem_cons.mp hb with e | hb
      · omega
      · have := h.1 b hb; omega
    · split
      · exact List.pairwise_cons.mpr h
      · rw [List.pairwise_cons]
        refine ⟨fun b hb => ?_, ih h.2⟩
        rcases mem_ins.mp hb with e | hb
        · omega
        · exact h.1 b hb
theorem uniq_sorted (l : List Nat) : (uniq l).Pairwise (· < ·) := by
  induction l with
  | nil => simp [uniq]
  | cons a l ih => exact ins_sorted ih
theorem sorted_ext {α : Type} {R : α → α → Prop} (irr : ∀ a, ¬ R a a) (asym : ∀ a b, R a b → ¬ R b a) {l m : List α} (hl : l.Pairwise R) (hm : m.Pairwise R) (h : ∀ x, x ∈ l ↔ x ∈ m) : l = m := by
  induction l generalizing m with
  | nil =>
    cases m with
    | nil => rfl
    | cons b m => exact absurd ((h b).mpr (List.mem_cons_self ..)) (by simp)
  | cons a l ih =>
    cases m with
    | nil => exact absurd ((h a).mp (List.mem_cons_self ..)) (by simp)
    | cons b m =>
      rw [List.pairwise_cons] at hl hm
      have e : a = b := by
        have ha := (h a).mp (List.mem_cons_self ..)
        have hb := (h b).mpr (List.mem_cons_self ..)
        rcases List.mem_cons.mp ha with e | ha
        · exact e
        · rcases List.mem_cons.mp hb with e | hb
          · exact e.symm
          · exact absurd (hl.1 b hb) (asym _ _ (hm.1 a ha))
      subst e
      congr 1
      refine ih hl.2 hm.2 fun x => ⟨fun hx => ?_, fun hx => ?_⟩
      · have := (h x).mp (List.mem_cons_of_mem _ hx)
        rcases List.mem_cons.mp this with e | hx'
        · subst e; exact absurd (hl.1 _ hx) (irr _)
        · exact hx'
      · have := (h x).mpr (List.mem_cons_of_mem _ hx)
        rcases List.mem_cons.mp this with e | hx'
        · subst e; exact absurd (hm.1 _ hx) (irr _)
        · exact hx'
theorem nodup_of_lt {l : List Nat} (h : l.Pairwise (· < ·)) : l.Nodup := h.imp fun h => Nat.ne_of_lt h

/-! ### parts, ring_length, divisors, rings -/
def partsTo (acc : List Nat) (l : List Nat) : List Nat := l.foldl (fun acc p => acc ++ (pf (p - 1)).filter fun q => !acc.contains q) acc
def parts (l : List Nat) : List Nat := uniq (partsTo l l)
def facts (v : Nat) : List Nat := uniq (pf v)
theorem facts_pr {v q : Nat} (h : q ∈ facts v) : Pr q := pf_pr (mem_uniq.mp h)
theorem facts_nodup (v : Nat) : (facts v).Nodup := nodup_of_lt (uniq_sorted _)
theorem partsTo_pr {acc l : List Nat} (ha : ∀ q ∈ acc, Pr q) : ∀ q ∈ partsTo acc l, Pr q := by
  induction l generalizing acc with
  | nil => exact ha
  | cons a l ih =>
    refine ih fun q hq => ?_
    rcases List.mem_append.mp hq with hq | hq
    · exact ha q hq
    · exact pf_pr (List.mem_filter.mp hq).1
theorem parts_pr {l : List Nat} (h : ∀ q ∈ l, Pr q) : ∀ q ∈ parts l, Pr q := fun q hq => partsTo_pr h q (mem_uniq.mp hq)
def order (b v : Nat) (fs ps : List Nat) : Nat := ordTo b v (units v fs) ps
theorem order_pos {b v : Nat} {fs ps : List Nat} (hp : ∀ q ∈ fs, Pr q) (hn : fs.Nodup) (hv : 0 < v) : 0 < order b v fs ps := (ordTo_pos (units_pos hp hn hv)).1
def ringLen (r c p : Nat) : Nat := if p = 0 ∨ p = r * c - 1 then 1 else order r ((r * c - 1) / Nat.gcd p (r * c - 1)) (facts (r * c - 1)) (parts (facts (r * c - 1)))
/-- found, one more prime with its number of times -/
def powers (p : Nat) : Nat → List Nat
  | 0 => []
  | n + 1 => powers p n ++ [p ^ n]
def longer (found : List Nat) (p n : Nat) : List Nat := (List.range n).flatMap fun k => found.map (· * p ^ k)
def divsTo (every : List Nat) (found : List Nat) (ps : List Nat) : List Nat := ps.foldl (fun f p => longer f p (every.count p + 1)) found
def divs (v : Nat) : List Nat := divsTo (pf v) [1] (facts v)
theorem longer_pos {found : List Nat} {p n : Nat} (hp : 0 < p) (h : ∀ d ∈ found, 0 < d) : ∀ d ∈ longer found p n, 0 < d := by
  intro d hd
  obtain ⟨k, _, hd⟩ := List.mem_flatMap.mp hd
  obtain ⟨e, he, rfl⟩ := List.mem_map.mp hd
  exact Nat.mul_pos (h e he) (Nat.pow_pos hp)
theorem divsTo_pos {every found ps : List Nat} (hp : ∀ p ∈ ps, 0 < p) (h : ∀ d ∈ found, 0 < d) : ∀ d ∈ divsTo every found ps, 0 < d := by
  induction ps generalizing found with
  | nil => exact h
  | cons a l ih => exact ih (fun p hq => hp p (List.mem_cons_of_mem _ hq)) (longer_pos (hp a (List.mem_cons_self ..)) h)
theorem divs_pos {v : Nat} : ∀ d ∈ divs v, 0 < d := divsTo_pos (fun p hp => by have := (facts_pr hp).1; omega) (by simp)
theorem longer_length {found : List Nat} {p n : Nat} : (longer found p n).length = n * found.length := by
  unfold longer
  induction n with
  | zero => simp
  | succ n ih => rw [List.range_succ, List.flatMap_append, List.length_append, ih]; simp; rw [Nat.add_mul, Nat.one_mul]
theorem partsTo_length {acc l : List Nat} : (partsTo acc l).length ≤ acc.length + (l.map fun p => (pf (p - 1)).length).sum := by
  induction l generalizing acc with
  | nil => exact Nat.le_add_right ..
  | cons a l ih =>
    refine Nat.le_trans (ih (acc := acc ++ (pf (a - 1)).filter fun q => !acc.contains q)) ?_
    have := List.length_filter_le (fun q => !acc.contains q) (pf (a - 1))
    rw [List.length_append, List.map_cons, List.sum_cons]
    omega
theorem sum_pf {l : List Nat} (h : ∀ q ∈ l, Pr q) : 2 ^ (l.map fun p => (pf (p - 1)).length).sum ≤ l.prod := by
  induction l with
  | nil => exact Nat.le_refl _
  | cons a l ih =>
    rw [List.map_cons, List.sum_cons, List.prod_cons, Nat.pow_add]
    have h1 := (h a (List.mem_cons_self ..)).1
    exact Nat.mul_le_mul (Nat.le_trans (pf_length (a - 1) (by omega)) (Nat.sub_le ..)) (ih fun q hq => h q (List.mem_cons_of_mem _ hq))
theorem facts_prod {v : Nat} : (facts v).prod ∣ v := prod_dvd (fun _ h => facts_pr h) (facts_nodup v) fun _ h => pf_dvd (mem_uniq.mp h)
theorem parts_bound {v : Nat} (h : 0 < v) (h2 : v < 2 ^ 31) : (partsTo (facts v) (facts v)).length < 64 := by
  have hp := Nat.le_of_dvd h (facts_prod (v := v))
  have h3 := two_pow_le (l := facts v) fun q hq => (facts_pr hq).1
  have h4 := sum_pf (l := facts v) fun q hq => facts_pr hq
  have h5 : (facts v).length < 31 := (Nat.pow_lt_pow_iff_right (by decide)).mp (Nat.lt_of_le_of_lt (Nat.le_trans h3 hp) h2)
  have h6 : ((facts v).map fun p => (pf (p - 1)).length).sum < 31 := (Nat.pow_lt_pow_iff_right (by decide)).mp (Nat.lt_of_le_of_lt (Nat.le_trans h4 hp) h2)
  have := partsTo_length (acc := facts v) (l := facts v)
  omega
theorem facts_lt {v q : Nat} (h : 0 < v) (hq : q ∈ facts v) : q ≤ v := Nat.le_of_dvd h (pf_dvd (mem_uniq.mp hq))
theorem partsTo_lt {v : Nat} {acc l : List Nat} (ha : ∀ q ∈ acc, q ≤ v) (hp : ∀ q ∈ l, Pr q ∧ q ≤ v) : ∀ q ∈ partsTo acc l, q ≤ v := by
  induction l generalizing acc with
  | nil => exact ha
  | cons a l ih =>
    refine ih (fun q hq => ?_) fun q hq => hp q (List.mem_cons_of_mem _ hq)
    rcases List.mem_append.mp hq with hq | hq
    · exact ha q hq
    · have h1 := hp a (List.mem_cons_self ..)
      have h2 := h1.1.1
      have h3 := Nat.le_of_dvd (by omega) (pf_dvd (List.mem_filter.mp hq).1)
      omega
theorem parts_lt {v q : Nat} (h : 0 < v) (hq : q ∈ parts (facts v)) : q ≤ v :=
  partsTo_lt (fun _ hq => facts_lt h hq) (fun _ hq => ⟨facts_pr hq, facts_lt h hq⟩) q (mem_uniq.mp hq)
/-! ### the divisors' size -/
theorem pow_count_dvd {l : List Nat} {p : Nat} : p ^ l.count p ∣ l.prod := by
  induction l with
  | nil => exact Nat.dvd_refl _
  | cons a l ih =>
    rw [List.prod_cons, List.count_cons]
    by_cases e : a = p
    · subst e
      rw [beq_self_eq_true, if_pos rfl, Nat.pow_succ, Nat.mul_comm]
      exact Nat.mul_dvd_mul (Nat.dvd_refl _) ih
    · rw [if_neg (by simpa using e), Nat.add_zero]
      exact Nat.dvd_trans ih (Nat.dvd_mul_left ..)
def pw (every ps : List Nat) : Nat := (ps.map fun p => p ^ every.count p).prod
theorem cop_pw {every l : List Nat} {p : Nat} (hp : Pr p) (h : ∀ q ∈ l, Pr q) (hn : p ∉ l) (k : Nat) : Nat.Coprime (p ^ k) (pw every l) := by
  unfold pw
  refine cop_prod fun q hq => ?_
  obtain ⟨z, hz, rfl⟩ := List.mem_map.mp hq
  exact Nat.Coprime.pow _ _ (hp.cop (h z hz) fun e => hn (e ▸ hz))
theorem pw_dvd {v : Nat} {every ps : List Nat} (hp : ∀ q ∈ ps, Pr q) (hn : ps.Nodup) (hd : ∀ q ∈ ps, q ^ every.count q ∣ v) : pw every ps ∣ v := by
  induction ps with
  | nil => exact Nat.one_dvd _
  | cons a l ih =>
    have hn := List.nodup_cons.mp hn
    show a ^ every.count a * pw every l ∣ v
    exact Nat.Coprime.mul_dvd_of_dvd_of_dvd (cop_pw (hp a (List.mem_cons_self ..)) (fun q hq => hp q (List.mem_cons_of_mem _ hq)) hn.1 _) (hd a (List.mem_cons_self ..)) (ih (fun q hq => hp q (List.mem_cons_of_mem _ hq)) hn.2 fun q hq => hd q (List.mem_cons_of_mem _ hq))
theorem count_dvd {v p : Nat} (hv : 0 < v) : p ^ (pf v).count p ∣ v := by
  have h := pow_count_dvd (l := pf v) (p := p)
  rwa [(pf_spec v hv).1] at h
theorem pw_facts {v : Nat} (hv : 0 < v) {i : Nat} : pw (pf v) ((facts v).take i) ∣ v :=
  pw_dvd (fun q hq => facts_pr (List.mem_of_mem_take hq)) ((facts_nodup v).sublist (List.take_sublist ..)) fun _ _ => count_dvd hv
theorem longer_dvd {found : List Nat} {p n d : Nat} (h : d ∈ longer found p (n + 1)) : ∃ e ∈ found, d ∣ e * p ^ n := by
  obtain ⟨k, hk, hd⟩ := List.mem_flatMap.mp h
  obtain ⟨e, he, rfl⟩ := List.mem_map.mp hd
  exact ⟨e, he, Nat.mul_dvd_mul (Nat.dvd_refl _) (Nat.pow_dvd_pow p (by have := List.mem_range.mp hk; omega))⟩
theorem divsTo_dvd {every found ps : List Nat} {d : Nat} (h : d ∈ divsTo every found ps) : ∃ e ∈ found, d ∣ e * pw every ps := by
  induction ps generalizing found with
  | nil => exact ⟨d, h, by simp [pw]⟩
  | cons a l ih =>
    obtain ⟨e, he, hd⟩ := ih (found := longer found a (every.count a + 1)) h
    obtain ⟨z, hz, hzz⟩ := longer_dvd he
    refine ⟨z, hz, Nat.dvd_trans hd ?_⟩
    show _ ∣ z * (a ^ every.count a * pw every l)
    rw [← Nat.mul_assoc]
    exact Nat.mul_dvd_mul hzz (Nat.dvd_refl _)
theorem divs_dvd {v d i : Nat} (hv : 0 < v) (h : d ∈ divsTo (pf v) [1] ((facts v).take i)) : d ∣ v := by
  obtain ⟨e, he, hd⟩ := divsTo_dvd h
  rw [List.mem_singleton.mp he, Nat.one_mul] at hd
  exact Nat.dvd_trans hd (pw_facts hv)
def many (every ps : List Nat) : Nat := (ps.map fun p => every.count p + 1).prod
theorem divsTo_length {every found ps : List Nat} : (divsTo every found ps).length = many every ps * found.length := by
  induction ps generalizing found with
  | nil => exact (Nat.one_mul _).symm
  | cons a l ih =>
    show (divsTo every (longer found a (every.count a + 1)) l).length = (every.count a + 1) * many every l * found.length
    rw [ih, longer_length]
    ac_rfl
theorem sq2 (n : Nat) : (n + 1) * (n + 1) ≤ 4 * 2 ^ n := by
  match n with
  | 0 | 1 | 2 => decide
  | n + 3 =>
    have ih := sq2 (n + 2)
    rw [Nat.pow_succ]
    have e : (n + 3 + 1) * (n + 3 + 1) = n * n + 8 * n + 16 := by simp only [Nat.mul_add, Nat.add_mul]; omega
    have e2 : (n + 2 + 1) * (n + 2 + 1) = n * n + 6 * n + 9 := by simp only [Nat.mul_add, Nat.add_mul]; omega
    have : n ≤ n * n := by cases n with | zero => simp | succ n => exact Nat.le_mul_of_pos_left _ (by omega)
    omega
theorem sq3 (n : Nat) : (n + 1) * (n + 1) ≤ 2 * 3 ^ n := by
  match n with
  | 0 | 1 => decide
  | n + 2 =>
    have ih := sq3 (n + 1)
    rw [Nat.pow_succ]
    have e : (n + 2 + 1) * (n + 2 + 1) = n * n + 6 * n + 9 := by simp only [Nat.mul_add, Nat.add_mul]; omega
    have e2 : (n + 1 + 1) * (n + 1 + 1) = n * n + 4 * n + 4 := by simp only [Nat.mul_add, Nat.add_mul]; omega
    have : n ≤ n * n := by cases n with | zero => simp | succ n => exact Nat.le_mul_of_pos_left _ (by omega)
    omega
theorem sq5 (n : Nat) : (n + 1) * (n + 1) ≤ 4 ^ n := by
  match n with
  | 0 | 1 => decide
  | n + 2 =>
    have ih := sq5 (n + 1)
    rw [Nat.pow_succ]
    have e : (n + 2 + 1) * (n + 2 + 1) = n * n + 6 * n + 9 := by simp only [Nat.mul_add, Nat.add_mul]; omega
    have e2 : (n + 1 + 1) * (n + 1 + 1) = n * n + 4 * n + 4 := by simp only [Nat.mul_add, Nat.add_mul]; omega
    have : n ≤ n * n := by cases n with | zero => simp | succ n => exact Nat.le_mul_of_pos_left _ (by omega)
    omega
theorem many_sq {every ps : List Nat} (hp : ∀ q ∈ ps, Pr q) (hn : ps.Nodup) : many every ps * many every ps ≤ (if 2 ∈ ps then 4 else 1) * (if 3 ∈ ps then 2 else 1) * pw every ps := by
  induction ps with
  | nil => simp [many, pw]
  | cons a l ih =>
    have hn := List.nodup_cons.mp hn
    have ih := ih (fun q hq => hp q (List.mem_cons_of_mem _ hq)) hn.2
    show (every.count a + 1) * many every l * ((every.count a + 1) * many every l) ≤ _ * _ * (a ^ every.count a * pw every l)
    generalize every.count a = k
    have e1 : (k + 1) * many every l * ((k + 1) * many every l) = ((k + 1) * (k + 1)) * (many every l * many every l) := by ac_rfl
    rw [e1]
    by_cases h2 : a = 2
    · subst h2
      rw [if_neg hn.1] at ih
      rw [if_pos (List.mem_cons_self ..)]
      have e3 : (if 3 ∈ 2 :: l then 2 else 1) = (if 3 ∈ l then 2 else 1) := by simp
      rw [e3]
      generalize (if 3 ∈ l then 2 else 1) = z at ih ⊢
      have e2 : 4 * z * (2 ^ k * pw every l) = (4 * 2 ^ k) * (1 * z * pw every l) := by rw [Nat.one_mul]; ac_rfl
      rw [e2]
      exact Nat.mul_le_mul (sq2 k) ih
    · by_cases h3 : a = 3
      · subst h3
        rw [if_neg hn.1] at ih
        rw [if_pos (c := 3 ∈ 3 :: l) (List.mem_cons_self ..)]
        have e3 : (if 2 ∈ 3 :: l then 4 else 1) = (if 2 ∈ l then 4 else 1) := by simp
        rw [e3]
        generalize (if 2 ∈ l then 4 else 1) = z at ih ⊢
        have e2 : z * 2 * (3 ^ k * pw every l) = (2 * 3 ^ k) * (z * 1 * pw every l) := by rw [Nat.mul_one]; ac_rfl
        rw [e2]
        exact Nat.mul_le_mul (sq3 k) ih
      · have e3 : (if 2 ∈ a :: l then 4 else 1) = (if 2 ∈ l then 4 else 1) := by simp [Ne.symm h2]
        have e4 : (if 3 ∈ a :: l then 2 else 1) = (if 3 ∈ l then 2 else 1) := by simp [Ne.symm h3]
        rw [e3, e4]
        generalize (if 2 ∈ l then 4 else 1) * (if 3 ∈ l then 2 else 1) = z at ih ⊢
        have e2 : z * (a ^ k * pw every l) = a ^ k * (z * pw every l) := by ac_rfl
        rw [e2]
        have ha := (hp a (List.mem_cons_self ..)).1
        exact Nat.mul_le_mul (Nat.le_trans (sq5 k) (Nat.pow_le_pow_left (by omega) k)) ih
theorem divs_length {v i : Nat} (hv : 0 < v) (h : v < 2 ^ 31) : (divsTo (pf v) [1] ((facts v).take i)).length < 2 ^ 18 := by
  rw [divsTo_length]
  have h1 := many_sq (every := pf v) (ps := (facts v).take i) (fun q hq => facts_pr (List.mem_of_mem_take hq)) ((facts_nodup v).sublist (List.take_sublist ..))
  have h2 := Nat.le_of_dvd hv (pw_facts hv (i := i))
  generalize many (pf v) ((facts v).take i) = m at *
  have h3 : m * m ≤ 4 * 2 * v := Nat.le_trans h1 (Nat.mul_le_mul (Nat.mul_le_mul (by split <;> omega) (by split <;> omega)) h2)
  show m * 1 < 2 ^ 18
  apply Nat.lt_of_not_le
  intro z
  have : 2 ^ 18 * 2 ^ 18 ≤ m * m := Nat.mul_le_mul (by omega) (by omega)
  omega
/-! ### rings -/
def getI (d : List (Nat × Nat)) (k : Nat) : Nat := ((d.find? fun p => decide (p.1 = k)).map (·.2)).getD 0
def putI (d : List (Nat × Nat)) (k v : Nat) : List (Nat × Nat) := if (d.any fun p => decide (p.1 = k)) = true then d.map (fun p => if p.1 = k then (p.1, v) else p) else d ++ [(k, v)]
def keys (d : List (Nat × Nat)) : List Nat := d.map (·.1)
theorem any_key {d : List (Nat × Nat)} {k : Nat} : (d.any fun p => decide (p.1 = k)) = true ↔ k ∈ keys d := by
  unfold keys
  rw [List.any_eq_true]
  constructor
  · rintro ⟨p, hp, e⟩
    exact List.mem_map.mpr ⟨p, hp, of_decide_eq_true e⟩
  · intro h
    obtain ⟨p, hp, e⟩ := List.mem_map.mp h
    exact ⟨p, hp, decide_eq_true e⟩
theorem putI_keys {d : List (Nat × Nat)} {k v : Nat} : keys (putI d k v) = if k ∈ keys d then keys d else keys d ++ [k] := by
  unfold putI
  by_cases h : k ∈ keys d
  · rw [if_pos (any_key.mpr h), if_pos h]
    unfold keys
    rw [List.map_map]
    refine List.map_congr_left fun p _ => ?_
    show (if p.1 = k then (p.1, v) else p).1 = p.1
    split <;> rfl
  · rw [if_neg fun z => h (any_key.mp z), if_neg h]
    exact List.map_append
theorem putI_nodup {d : List (Nat × Nat)} {k v : Nat} (h : (keys d).Nodup) : (keys (putI d k v)).Nodup := by
  rw [putI_keys]
  split
  · exact h
  · rename_i hk
    rw [List.nodup_append]
    exact ⟨h, by simp, fun a ha b hb e => hk (by rw [← List.mem_singleton.mp hb, ← e]; exact ha)⟩
theorem putI_length {d : List (Nat × Nat)} {k v : Nat} : (putI d k v).length ≤ d.length + 1 := by
  unfold putI
  split
  · rw [List.length_map]; omega
  · rw [List.length_append]; exact Nat.le_refl _
theorem putI_ne {d : List (Nat × Nat)} {k v : Nat} : putI d k v ≠ [] := by
  unfold putI
  split
  · rename_i h
    intro e
    rw [List.map_eq_nil_iff.mp e] at h
    cases h
  · simp
theorem mem_getI {d : List (Nat × Nat)} {k v : Nat} (h : (keys d).Nodup) : (k, v) ∈ d ↔ k ∈ keys d ∧ getI d k = v := by
  induction d with
  | nil => simp [keys]
  | cons p d ih =>
    have hn := List.nodup_cons.mp h
    have ih := ih hn.2
    by_cases e : p.1 = k
    · have g : getI (p :: d) k = p.2 := by unfold getI; rw [List.find?_cons, decide_eq_true e]; rfl
      rw [g, List.mem_cons]
      constructor
      · rintro (z | z)
        · exact ⟨by rw [← e]; exact List.mem_cons_self .., by rw [← z]⟩
        · exact absurd (List.mem_map.mpr ⟨_, z, rfl⟩) (by rw [← e]; exact hn.1)
      · rintro ⟨_, z⟩
        exact .inl (by rw [← e, ← z])
    · have g : getI (p :: d) k = getI d k := by unfold getI; rw [List.find?_cons, decide_eq_false e]
      have m : k ∈ keys (p :: d) ↔ k ∈ keys d := by
        show k ∈ p.1 :: keys d ↔ _
        rw [List.mem_cons]
        exact ⟨fun z => z.resolve_left fun y => e y.symm, .inr⟩
      rw [g, m, ← ih, List.mem_cons]
      exact ⟨fun z => z.resolve_left fun y => e (by rw [← y]), .inr⟩
def sortP (d : List (Nat × Nat)) : List (Nat × Nat) := (uniq (keys d)).map fun k => (k, getI d k)
theorem sortP_of {d qs : List (Nat × Nat)} (hn : (keys d).Nodup) (hp : qs.Perm d) (hs : qs.Pairwise fun a b => a.1 < b.1 ∨ (a.1 = b.1 ∧ a.2 ≤ b.2)) : qs = sortP d := by
  have hk : (keys qs).Nodup := (hp.map fun p : Nat × Nat => p.1).nodup_iff.mpr hn
  have hs2 : qs.Pairwise fun a b => a.1 < b.1 := by
    have h3 : qs.Pairwise fun a b => a.1 ≠ b.1 := List.pairwise_map.mp hk
    exact hs.imp₂ (fun a b h1 h2 => h1.resolve_right fun z => h2 z.1) h3
  have hs3 : (sortP d).Pairwise fun a b => a.1 < b.1 := List.pairwise_map.mpr (uniq_sorted _)
  refine sorted_ext (R := fun a b : Nat × Nat => a.1 < b.1) (fun a => Nat.lt_irrefl _) (fun a b h => Nat.lt_asymm h) hs2 hs3 fun x => ?_
  rw [hp.mem_iff]
  obtain ⟨k, v⟩ := x
  rw [mem_getI hn]
  unfold sortP
  rw [List.mem_map]
  constructor
  · rintro ⟨h1, h2⟩
    exact ⟨k, mem_uniq.mpr h1, by rw [h2]⟩
  · rintro ⟨z, h1, h2⟩
    cases h2
    exact ⟨mem_uniq.mp h1, rfl⟩
def ringStep (r : Nat) (fs ps : List Nat) (d : List (Nat × Nat)) (v : Nat) : List (Nat × Nat) := putI d (order r v fs ps) (getI d (order r v fs ps) + units v fs / order r v fs ps)
def ringD (r v : Nat) (ds : List Nat) : List (Nat × Nat) := ds.foldl (ringStep r (facts v) (parts (facts v))) [(1, 1)]
theorem ringD_spec {r v : Nat} {ds : List Nat} : (keys (ringD r v ds)).Nodup ∧ ringD r v ds ≠ [] ∧ (ringD r v ds).length ≤ ds.length + 1 := by
  unfold ringD
  have : ∀ (d : List (Nat × Nat)), (keys d).Nodup → d ≠ [] → (keys (ds.foldl (ringStep r (facts v) (parts (facts v))) d)).Nodup ∧ ds.foldl (ringStep r (facts v) (parts (facts v))) d ≠ [] ∧ (ds.foldl (ringStep r (facts v) (parts (facts v))) d).length ≤ d.length + ds.length := by
    induction ds with
    | nil => exact fun d h1 h2 => ⟨h1, h2, Nat.le_refl _⟩
    | cons a l ih =>
      intro d h1 h2
      obtain ⟨i1, i2, i3⟩ := ih (ringStep r (facts v) (parts (facts v)) d a) (putI_nodup h1) putI_ne
      refine ⟨i1, i2, Nat.le_trans i3 ?_⟩
      have : (ringStep r (facts v) (parts (facts v)) d a).length ≤ d.length + 1 := putI_length
      rw [List.length_cons]
      omega
  have := this [(1, 1)] (by simp [keys]) (by simp)
  rw [List.length_singleton] at this
  exact ⟨this.1, this.2.1, by omega⟩
def ringsL (r c : Nat) : List (Nat × Nat) := if r * c - 1 = 0 then [(1, 1)] else sortP (ringD r (r * c - 1) (divs (r * c - 1)))
end Rm
end CP

set_option Elab.async false
set_option linter.all false
set_option maxRecDepth 100000
set_option maxHeartbeats 4000000
/-! CP: own short words over the hand layer: operators by name, readings one step at a time -/
namespace CP
open PySem L2

/-! ### operators by name -/
abbrev oAdd : R2 := rI0 fun i j => .int (i + j)
abbrev oSub : R2 := rI0 fun i j => .int (i - j)
abbrev oMul : R2 := rI CMulW fun i j => .int (i * j)
abbrev oDiv : R2 := rI CDivW fun i j => .int (i / j)
abbrev oMod : R2 := rI (fun _ j => 0 < j) fun i j => .int (i % j)
abbrev oLt : R2 := rI0 fun i j => .bl (decide (i < j))
abbrev oLe : R2 := rI0 fun i j => .bl (decide (i ≤ j))
abbrev oGt : R2 := rI0 fun i j => .bl (decide (j < i))
abbrev oGe : R2 := rI0 fun i j => .bl (decide (j ≤ i))
abbrev oNeg : V → Hp → VK → Prop := rU fun i => .int (-i)
/-- a power of a base below 2 ^ 1000, the exponent at most 1000 -/
def CPw (i j : Int) : Prop := 0 ≤ j ∧ j ≤ 1000 ∧ i.natAbs < 2 ^ 1000
abbrev oPow : R2 := rI CPw fun i j => .int (i ^ j.toNat)
def oList (K : PySem.W.Frag) : List V → Hp → VK → Prop := fun xs H Q => ∃ p ys, xs = [.ref p] ∧ (SqL K H p ys ∨ SqT K H p ys) ∧ ∀ l, H l = none → Q (.ref l) (upd H l (.lst ys))
def oMax2 : List V → Hp → VK → Prop := fun xs H Q => ∃ i j, xs = [.int i, .int j] ∧ Q (.int (if j > i then j else i)) H
def oMin2 : List V → Hp → VK → Prop := fun xs H Q => ∃ i j, xs = [.int i, .int j] ∧ Q (.int (if j < i then j else i)) H
def oAbs : List V → Hp → VK → Prop := fun xs H Q => ∃ i, xs = [.int i] ∧ Q (.int (if i < 0 then -i else i)) H
def rLenA (K : PySem.W.Frag) : List V → Hp → VK → Prop := fun xs H Q => ∃ p ys, xs = [.ref p] ∧ (SqL K H p ys ∨ SqT K H p ys) ∧ Q (.int ys.length) H
section
variable {X : Cx}
theorem call_lenA : CallR X (.builtin "len") (rLenA X.K) := call_len_seq
theorem call_maxA (h : X.calm = true) : CallR X (.builtin "max") oMax2 := call_max2 h
theorem call_minA (h : X.calm = true) : CallR X (.builtin "min") oMin2 := call_min2 h
theorem call_absA : CallR X (.builtin "abs") oAbs := call_abs
theorem call_listA : CallR X (.type "list") (oList X.K) := call_list_of
theorem op_powW : OpR X (binaryOp .Pow) oPow := opI fun i j _ _ _ _ _ hc q => by
  obtain ⟨h0, h1, h2⟩ := hc
  refine PyProof.Rows.pow_int h0 ?_ q
  have b := PyProof.Rows.intBits_le h2
  have h3 : (Builtin.Int.intBits i : Int) * j ≤ 1000 * j := Int.mul_le_mul_of_nonneg_right (by omega) h0
  omega
end

/-! ### kinds of values, isinstance -/
def kinds : List String := ["NoneType", "bool", "int", "str", "list", "tuple", "dict"]
theorem kit_all : (kinds.all fun n => (["int", "bool", "str", "list", "tuple", "dict"]).all fun c => decide (kitB n c = some (n == c || (n == "bool" && c == "int")))) = true := by decide +kernel
theorem kit_in {K : PySem.W.Frag} {n c : String} (h : n ∈ kinds) (hc : c ∈ ["int", "bool", "str", "list", "tuple", "dict"]) : PySem.W.kitOne K (.type n) (.type c) = some (n == c || (n == "bool" && c == "int")) :=
  kit_ty (of_decide_eq_true (List.all_eq_true.mp (List.all_eq_true.mp kit_all n h) c hc))
/-- a value of one of these kinds -/
def TK (K : PySem.W.Frag) (H : Hp) (x : V) (n : String) : Prop := n ∈ kinds ∧ TyX K H x (.type n)
section
variable {K : PySem.W.Frag} {H : Hp} {Q : VK} {x : V} {n c : String}
theorem r_isi (h : TK K H x n) (hc : c ∈ ["int", "bool", "str", "list", "tuple", "dict"]) (q : Q (.bl (n == c || (n == "bool" && c == "int"))) H) : rIsi K [x, .ty c] H Q :=
  ⟨x, .ty c, .type n, .type c, _, rfl, .ty c, h.2, kit_in h.1 hc, q⟩
theorem tk_int {i : Int} : TK K H (.int i) "int" := ⟨by decide, .base (.int i)⟩
theorem tk_bl {b : Bool} : TK K H (.bl b) "bool" := ⟨by decide, .base (.bl b)⟩
theorem tk_non : TK K H .non "NoneType" := ⟨by decide, .base .non⟩
theorem tk_str {z : Str} : TK K H (.str z) "str" := ⟨by decide, .base (.str z)⟩
theorem tk_lst {a : Addr} {xs : List V} (h : H a = some (.lst xs)) : TK K H (.ref a) "list" := ⟨by decide, .base (.lst h)⟩
theorem tk_tup {a : Addr} {xs : List V} (h : H a = some (.tup xs)) : TK K H (.ref a) "tuple" := ⟨by decide, .base (.tup h)⟩
theorem tk_dK {a : Addr} {kvs : List (Key × V)} (h : H a = some (.dK kvs)) : TK K H (.ref a) "dict" := ⟨by decide, .base (.dK h)⟩
theorem tk_dT {a : Addr} {kvs : List (List Key × V)} (h : H a = some (.dT kvs)) : TK K H (.ref a) "dict" := ⟨by decide, .base (.dT h)⟩
end
/-! ### sizes of products, divisors -/
theorem mul_ok {i j : Int} (h : -(2 ^ 400) < i ∧ i < 2 ^ 400 ∧ -(2 ^ 400) < j ∧ j < 2 ^ 400) : CMulW i j :=
  wide_mul (a := 400) (b := 400) (by omega) (by omega) (by decide) (by decide) (by decide)
theorem mul_okN {a b : Nat} (h : a < 2 ^ 400 ∧ b < 2 ^ 400) : CMulW (a : Int) (b : Int) := mul_ok (by omega)
theorem div_ok {i j : Int} (h : 0 < j ∧ j < 2 ^ 400) : CDivW i j := wide_div (b := 400) h.1 (by omega) (by decide) (by decide)

/-! ### heaps: one that grows, one that changes at one place -/
/-- all but l stands -/
def SB (l : Addr) (H H' : Hp) : Prop := ∀ b o, b ≠ l → H b = some o → H' b = some o
section
variable {H H1 H' : Hp} {a l : Addr} {o u : HO}
theorem same_new (h : H a = none) : Same H (upd H a o) := fun b u e => by
  rw [upd_ne (ne_of_none e h)]
  exact e
theorem sb_upd : SB l H (upd H l o) := fun b u hb e => by
  rw [upd_ne hb]
  exact e
theorem Same.to (s : Same H H') (h : H a = some o) : H' a = some o := s a o h
theorem SB.to (s : SB l H H') (n : a ≠ l) (h : H a = some o) : H' a = some o := s a o n h
theorem Same.sb (s : Same H H1) (n : H l = none) (b : SB l H1 H') : Same H H' := fun c u e => b c u (ne_of_none e n) (s c u e)
theorem SB.same (s : SB l H H1) (b : Same H1 H') : SB l H H' := fun c u hc e => b c u (s c u hc e)
theorem SB.trans (s : SB l H H1) (b : SB l H1 H') : SB l H H' := fun c u hc e => b c u hc (s c u hc e)
theorem SB.new (s : SB l H H1) (n : H a = none) (b : SB a H1 H') : SB l H H' := fun c u hc e => b c u (ne_of_none e n) (s c u hc e)
theorem Same.toSB (s : Same H H') : SB l H H' := fun c u _ e => s c u e
theorem SB.free (e : SB a H H') (h : H' l = none) (n : l ≠ a) : H l = none := by
  cases q : H l with
  | none => rfl
  | some o =>
    rw [e l o n q] at h
    cases h
end

/-- many new objects told at once -/
theorem inv_grow {X : Cx} {pins : List (Addr × Obj)} {σ : St} {H H' : Hp} {s : Shared} {h' : Heap} {tk : Nat} (I : Inv X pins σ H s) (hk : ∀ b o, s.heap.get? b = some o → h'.get? b = some o) (ext : Same H H')
    (new : ∀ b o, H' b = some o → H b = some o ∨ (s.heap.objs.size ≤ b ∧ ObjOk X.prog X.w H' h' b o)) : Inv X pins σ H' { s with heap := h', toks := tk } := by
  have old : ∀ b o, s.heap.get? b = some o → H b = none → H' b = none := fun b o e n => by
    cases q : H' b with
    | none => rfl
    | some u =>
      rcases new b u q with z | ⟨z, _⟩
      · rw [n] at z; cases z
      · exact absurd (Heap.lt_size e) (Nat.not_lt.mpr z)
  refine I.un ⟨fun b o e _ _ _ => hk b o e, fun b o e _ _ _ => ⟨o.slots, hk b o e⟩, fun b o e n _ => old b o e n, fun b o e _ => ⟨o, hk b o e⟩, fun b xs e => ext b _ e, fun b o u e => ext b _ e, fun b ps e => ⟨#[], by rw [ext b _ e]; simp⟩⟩ fun b u e => ?_
  rcases new b u e with z | ⟨_, z⟩
  · exact (I.hok b u z).stay (fun c v _ q => hk c v q) (fun c q => ext c _ q) fun c xs q => ext c _ q
  · exact z

/-! ### readings one step at a time -/
section
variable {K : PySem.W.Frag} {σ : St} {H : Hp} {Q : VK} {D : Ends} {i j : Nat} {v x y : V} {ta tb te : TE} {tt tu : TT} {t1 t2 : TS} {tas tr : TA}
theorem r_var (h : σ[i]? = some (some v)) (q : Q v H) : tVar i σ H Q := ⟨v, h, q⟩
theorem r_c (q : Q v H) : tC v σ H Q := q
theorem r_op {r : R2} (q : ta σ H fun x H1 => tb σ H1 fun y H2 => r x y H2 Q) : tOp r ta tb σ H Q := q
theorem r_un {r : V → Hp → VK → Prop} (q : ta σ H fun x H1 => r x H1 Q) : tUn r ta σ H Q := q
theorem r_I0 {g : Int → Int → V} {i j : Int} (q : Q (g i j) H) : rI0 g (.int i) (.int j) H Q := ⟨i, j, rfl, rfl, q⟩
theorem r_I {C : Int → Int → Prop} {g : Int → Int → V} {i j : Int} (c : C i j) (q : Q (g i j) H) : rI C g (.int i) (.int j) H Q := ⟨i, j, rfl, rfl, c, q⟩
theorem r_U {g : Int → V} {i : Int} (q : Q (g i) H) : rU g (.int i) H Q := ⟨i, rfl, q⟩
theorem r_eq (h : scal x y = true) (q : Q (.bl (decide (x = y))) H) : rEq x y H Q := ⟨h, q⟩
theorem r_ne (h : scal x y = true) (q : Q (.bl (!decide (x = y))) H) : rNe x y H Q := ⟨h, q⟩
theorem r_eqI {i j : Int} (q : Q (.bl (decide (i = j))) H) : rEq (.int i) (.int j) H Q := ⟨rfl, by
  have e : decide (V.int i = V.int j) = decide (i = j) := by
    by_cases h : i = j
    · subst h; simp
    · have h' : ¬ V.int i = V.int j := fun z => h (V.int.inj z)
      simp [h]
  rw [e]; exact q⟩
theorem r_neI {i j : Int} (q : Q (.bl (!decide (i = j))) H) : rNe (.int i) (.int j) H Q := ⟨rfl, by
  have e : decide (V.int i = V.int j) = decide (i = j) := by
    by_cases h : i = j
    · subst h; simp
    · have h' : ¬ V.int i = V.int j := fun z => h (V.int.inj z)
      simp [h]
  rw [e]; exact q⟩
theorem r_isN (q : Q (.bl (decide (x = .non))) H) : rIsN x .non H Q := ⟨rfl, q⟩
theorem r_notN (q : Q (.bl (!decide (x = .non))) H) : rNotN x .non H Q := ⟨rfl, q⟩
theorem r_test {Q : Bool → Hp → Prop} (q : te σ H fun x H1 => ∃ k, x = .bl k ∧ Q k H1) : tTest te σ H Q := q
theorem r_tB {Q : Bool → Hp → Prop} (q : te σ H fun x H1 => ∃ k, x = .bl k ∧ Q k H1) : tB te σ H Q := q
theorem r_tru {Q : Bool → Hp → Prop} (q : te σ H fun x H1 => ∃ k, TruV K x H1 k ∧ Q k H1) : tTru K te σ H Q := q
theorem r_bl {b : Bool} {P : Bool → Prop} (q : P b) : ∃ k, V.bl b = .bl k ∧ P k := ⟨b, rfl, q⟩
theorem r_and {Q : Bool → Hp → Prop} (q : tt σ H fun c H1 => if c = true then tu σ H1 Q else Q false H1) : tAnd tt tu σ H Q := q
theorem r_or {Q : Bool → Hp → Prop} (q : tt σ H fun c H1 => if c = true then Q true H1 else tu σ H1 Q) : tOr tt tu σ H Q := q
theorem r_not {Q : Bool → Hp → Prop} (q : tt σ H fun c H1 => Q (!c) H1) : tNot tt σ H Q := q
theorem r_andV (q : ta σ H fun x H1 => ∃ c, x = .bl c ∧ if c = true then tb σ H1 Q else Q (.bl false) H1) : tAndV ta tb σ H Q := q
theorem r_orV (q : ta σ H fun x H1 => ∃ c, x = .bl c ∧ if c = true then Q (.bl true) H1 else tb σ H1 Q) : tOrV ta tb σ H Q := q
theorem r_notV (q : ta σ H fun x H1 => ∃ c, x = .bl c ∧ Q (.bl (!c)) H1) : tNotV ta σ H Q := q
theorem r_ifE (q : tt σ H fun c H1 => if c = true then ta σ H1 Q else tb σ H1 Q) : tIf tt ta tb σ H Q := q
theorem r_nil {Q : List V → Hp → Prop} (q : Q [] H) : tNil σ H Q := q
theorem r_cons {Q : List V → Hp → Prop} (q : ta σ H fun x H1 => tr σ H1 fun xs H2 => Q (x :: xs) H2) : tCons ta tr σ H Q := q
theorem r_cb {r : List V → Hp → VK → Prop} (q : tas σ H fun vs H1 => r vs H1 Q) : tCB r tas σ H Q := q
theorem r_call {sp : Sp} {E : XK} (q : tas σ H fun vs H1 => sp (vs ++ []) H1 Q E) : tCall sp [] E tas σ H Q := q
theorem r_callD {sp : Sp} {dvs : List V} {E : XK} (q : tas σ H fun vs H1 => sp (vs ++ dvs) H1 Q E) : tCall sp dvs E tas σ H Q := q
/-- a new object -/
def NewO (o : HO) (H : Hp) (Q : VK) : Prop := ∀ p, H p = none → Q (.ref p) (upd H p o)
theorem r_newO {o : HO} (q : ∀ p H', H p = none → Same H H' → H' p = some o → Q (.ref p) H') : NewO o H Q := fun p h => q p _ h (same_new h) upd_same
theorem r_lst (q : tas σ H fun xs H1 => xs.length ≤ sizeLine ∧ NewO (.lst xs) H1 Q) : tLst tas σ H Q := q
theorem r_tup (q : tas σ H fun xs H1 => xs.length ≤ sizeLine ∧ NewO (.tup xs) H1 Q) : tTup tas σ H Q := q
theorem r_dnewK (q : NewO (.dK []) H Q) : tDNewK σ H Q := q
theorem r_mk {n : Nat} {o : HO} (hz : n ≤ sizeLine) (q : ∀ p H', H p = none → Same H H' → H' p = some o → Q (.ref p) H') : n ≤ sizeLine ∧ NewO o H Q := ⟨hz, r_newO q⟩
/-- an object changed -/
def PutO (l : Addr) (o : HO) (H : Hp) (P : Hp → Prop) : Prop := P (upd H l o)
theorem r_putO {P : Hp → Prop} {l : Addr} {o : HO} (q : ∀ H', SB l H H' → H' l = some o → P H') : PutO l o H P := q _ sb_upd upd_same
/-! built-ins by what they say -/
theorem r_len {p : Addr} {ys : List V} (h : SqL K H p ys) (q : Q (.int ys.length) H) : rLenA K [.ref p] H Q := ⟨p, ys, rfl, .inl h, q⟩
theorem r_lenT {p : Addr} {ys : List V} (h : SqT K H p ys) (q : Q (.int ys.length) H) : rLenA K [.ref p] H Q := ⟨p, ys, rfl, .inr h, q⟩
theorem r_list {p : Addr} {ys : List V} (h : SqL K H p ys) (q : ∀ l H', H l = none → Same H H' → H' l = some (.lst ys) → Q (.ref l) H') : oList K [.ref p] H Q := ⟨p, ys, rfl, .inl h, fun l hl => q l _ hl (same_new hl) upd_same⟩
theorem r_max2 {i j : Int} (q : Q (.int (if j > i then j else i)) H) : oMax2 [.int i, .int j] H Q := ⟨i, j, rfl, q⟩
theorem r_min2 {i j : Int} (q : Q (.int (if j < i then j else i)) H) : oMin2 [.int i, .int j] H Q := ⟨i, j, rfl, q⟩
theorem r_abs {i : Int} (q : Q (.int (if i < 0 then -i else i)) H) : oAbs [.int i] H Q := ⟨i, rfl, q⟩
theorem r_sum {p : Addr} {ns : List Int} (h : SqL K H p (ns.map V.int)) (q : Q (.int ns.sum) H) : rSum K [.ref p] H Q := ⟨p, ns, rfl, h, q⟩
theorem r_cat {p b : Addr} {xs ys : List V} (h : H p = some (.lst xs)) (h2 : H b = some (.lst ys)) (hz : xs.length + ys.length ≤ sizeLine) (q : ∀ l H', H l = none → Same H H' → H' l = some (.lst (xs ++ ys)) → Q (.ref l) H') : rCat (.ref p) (.ref b) H Q :=
  ⟨p, b, xs, ys, rfl, rfl, h, h2, hz, fun l hl => q l _ hl (same_new hl) upd_same⟩
theorem r_app {p : Addr} {xs : List V} {y : V} (h : H p = some (.lst xs)) (hz : xs.length < sizeLine) (q : ∀ H', SB p H H' → H' p = some (.lst (xs ++ [y])) → Q .non H') : rAppend (.ref p) [y] H Q :=
  ⟨p, xs, y, rfl, rfl, h, hz, q _ sb_upd upd_same⟩
theorem r_slL {p : Addr} {xs : List V} {lo hi : Option Int} (h : SqL K H p xs) (q : ∀ l H', H l = none → Same H H' → H' l = some (.lst (cutV xs lo hi)) → Q (.ref l) H') : rSlL K (.ref p) lo hi H Q :=
  ⟨p, xs, rfl, h, fun l hl => q l _ hl (same_new hl) upd_same⟩
theorem r_ixL {p : Addr} {xs : List V} {i : Int} {v : V} (h : SqL K H p xs) (ha : atI xs i = some v) (q : Q v H) : rIxL K (.ref p) (.int i) H Q := ⟨p, xs, i, v, rfl, rfl, h, ha, q⟩
theorem r_ixT {p : Addr} {xs : List V} {i : Int} {v : V} (h : SqT K H p xs) (ha : atI xs i = some v) (q : Q v H) : rIxT K (.ref p) (.int i) H Q := ⟨p, xs, i, v, rfl, rfl, h, ha, q⟩
theorem r_setL {P : Hp → Prop} {p : Addr} {xs : List V} {i : Int} {j : Nat} {v : V} (h : H p = some (.lst xs)) (hj : ixN xs.length i = some j) (q : ∀ H', SB p H H' → H' p = some (.lst (xs.set j v)) → P H') : rSetL (.ref p) (.int i) v H P :=
  ⟨p, xs, i, j, rfl, rfl, h, hj, q _ sb_upd upd_same⟩
theorem r_gsub {to ti : TE} {t : TSet} {q' : St → Hp → Prop} (q : to σ H fun o H1 => ti σ H1 fun i H2 => t o i v H2 fun H3 => q' σ H3) : gSub to ti t v σ H q' := q
theorem r_in {p : Addr} {xs : List V} {neg : Bool} (h : SqL K H p xs) (hx : flatV x = true) (ha : xs.all flatV = true) (q : Q (.bl (if neg then !inV x xs else inV x xs)) H) : rIn K neg x (.ref p) H Q := ⟨p, xs, rfl, .inl h, hx, ha, q⟩
theorem r_inT {p : Addr} {xs : List V} {neg : Bool} (h : SqT K H p xs) (hx : flatV x = true) (ha : xs.all flatV = true) (q : Q (.bl (if neg then !inV x xs else inV x xs)) H) : rIn K neg x (.ref p) H Q := ⟨p, xs, rfl, .inr h, hx, ha, q⟩
theorem r_bits {te : TE} (q : te σ H fun x H1 => ∃ i, x = .int i ∧ Q (.int (Builtin.Int.intBits i : Nat)) H1) : tBits te σ H Q := q
theorem r_iTup {R : It → Hp → Prop} {tl : TE} (q : tl σ H fun x H1 => ∃ a, x = .ref a ∧ (∃ xs, SqT K H1 a xs) ∧ R (Itt K a) H1) : iTup K tl σ H R := q
theorem r_iList {R : It → Hp → Prop} {tl : TE} (q : tl σ H fun x H1 => ∃ a, x = .ref a ∧ (∃ xs, SqL K H1 a xs) ∧ R (Itl K a) H1) : iList K tl σ H R := q
theorem r_iRng1 {R : It → Hp → Prop} (q : tas σ H fun vs H1 => ∃ j : Int, vs = [.int j] ∧ -(2 ^ 62) ≤ j ∧ j < 2 ^ 62 ∧ R (Itr 0 j.toNat) H1) : iRng1 tas σ H R := q
theorem r_dget2 {td ty tx : TE} (q : td σ H fun x H1 => ∃ a, x = .ref a ∧ IsD H1 a ∧ ty σ H1 fun y H2 => tx σ H2 fun z H3 => ∃ o, DGet H3 a y o ∧ Q (o.getD z) H3) : tDGet2 td ty tx σ H Q := q
theorem r_sdput {td ty tv : TE} (q : tv σ H fun v H1 => td σ H1 fun x H2 => ty σ H2 fun y H3 => ∃ a H4, x = .ref a ∧ DPut H3 a y v H4 ∧ D.nx σ H4) : sDPut td ty tv D σ H := q
theorem r_disp1 {i j : Int} (q : ∀ D H', H D = none → Same H H' → H' D = some (.dK [(Sum.inl i, .int j)]) → Q (.ref D) H') : tDisp [(tC (.int i), tC (.int j))] σ H Q := fun D hD => by
  refine ⟨upd_same, [(Sum.inl i, .int j)], rfl, Nat.succ_le_succ (Nat.zero_le _), ?_⟩
  refine q D _ hD (fun b o hb => ?_) upd_same
  have hne : b ≠ D := fun e => by rw [e, hD] at hb; cases hb
  rw [upd_ne hne, upd_ne hne]
  exact hb
theorem r_iRng2 {R : It → Hp → Prop} (q : tas σ H fun vs H1 => ∃ i j : Int, vs = [.int i, .int j] ∧ (-(2 ^ 62) ≤ i ∧ i < 2 ^ 62 ∧ -(2 ^ 62) ≤ j ∧ j < 2 ^ 62) ∧ R (Itr i (j - i).toNat) H1) : iRng2 tas σ H R := q
theorem r_rng2 {P : Int → Int → Prop} {i j : Int} (h : -(2 ^ 62) ≤ i ∧ i < 2 ^ 62 ∧ -(2 ^ 62) ≤ j ∧ j < 2 ^ 62) (q : P i j) : ∃ i' j' : Int, [V.int i, V.int j] = [.int i', .int j'] ∧ (-(2 ^ 62) ≤ i' ∧ i' < 2 ^ 62 ∧ -(2 ^ 62) ≤ j' ∧ j' < 2 ^ 62) ∧ P i' j' := ⟨i, j, rfl, h, q⟩
theorem r_neB {a b : Bool} (q : Q (.bl (a != b)) H) : rNe (.bl a) (.bl b) H Q := ⟨rfl, by cases a <;> cases b <;> simpa using q⟩
theorem r_eqB {a b : Bool} (q : Q (.bl (a == b)) H) : rEq (.bl a) (.bl b) H Q := ⟨rfl, by cases a <;> cases b <;> simpa using q⟩
theorem r_gtup {n : Nat} {u : TGs} {p : Addr} {xs : List V} {q' : St → Hp → Prop} (h : SqT K H p xs) (hl : xs.length = n) (q : u xs σ H q') : gTup K n u (.ref p) σ H q' := ⟨p, xs, rfl, h, hl, q⟩
theorem r_gcons {t : TG} {u : TGs} {v : V} {r : List V} {q' : St → Hp → Prop} (q : t v σ H fun σ' H' => u r σ' H' q') : gCons t u (v :: r) σ H q' := ⟨v, r, rfl, q⟩
theorem r_gnil {q' : St → Hp → Prop} (q : q' σ H) : gNil [] σ H q' := ⟨rfl, q⟩
theorem r_rng {P : Int → Prop} {j : Int} (h1 : -(2 ^ 62) ≤ j) (h2 : j < 2 ^ 62) (q : P j) : ∃ k : Int, [V.int j] = [.int k] ∧ -(2 ^ 62) ≤ k ∧ k < 2 ^ 62 ∧ P k := ⟨j, rfl, h1, h2, q⟩
/-- a comprehension over a list that stands, of flat tests and elements: what it makes -/
theorem r_lc {wi : TI} {g : TG} {vs : List Nat} (q : wi σ H fun J H1 => ∀ D, H1 D = none → ∃ W : Nat → Nat → Hp → Prop, (∃ m, W 0 m (upd H1 D (.lst []))) ∧ ∀ i m H, W i m H →
    (J.stop i H ∧ Q (.ref D) H) ∨ (J.go i H ∧ ∃ Nx : Hp → Prop, (∀ H', Nx H' → ∃ m', m' < m ∧ W (i + 1) m' H') ∧ ∀ x H', J.yld i H x H' → g x (wipe σ vs) H' fun σ2 H2 => wipe σ2 vs = wipe σ vs ∧ tt σ2 H2 fun b H3 =>
      if b = true then te σ2 H3 fun y H4 => ∃ acc, H4 D = some (.lst acc) ∧ acc.length < sizeLine ∧ Nx (upd H4 D (.lst (acc ++ [y]))) else Nx H3)) : tLc wi g tt te vs σ H Q := q
/-! statements -/
theorem r_seq (q : t1 { D with nx := t2 D } σ H) : tSeq t1 t2 D σ H := q
theorem r_next (q : D.nx σ H) : tNext D σ H := q
theorem r_brk (q : D.bk σ H) : tBreak D σ H := q
theorem r_cont (q : D.ct σ H) : tCont D σ H := q
theorem r_asg {g : TG} (q : te σ H fun x H1 => g x σ H1 D.nx) : tAsg te g D σ H := q
theorem r_name {q' : St → Hp → Prop} (q : q' (σ.set i (some v)) H) : gName i v σ H q' := q
theorem r_par (q : tas σ H fun vs H1 => ∃ v w, vs = [v, w] ∧ D.nx ((σ.set i (some v)).set j (some w)) H1) : tPar i j tas D σ H := q
theorem r_two {v w : V} {P : V → V → Prop} (q : P v w) : ∃ x y, [v, w] = [x, y] ∧ P x y := ⟨v, w, rfl, q⟩
theorem r_ret (q : te σ H D.rt) : tRet te D σ H := q
theorem r_retN (q : D.rt .non H) : tRetN D σ H := q
theorem r_drop (q : te σ H fun _ H1 => D.nx σ H1) : tDrop te D σ H := q
theorem r_ifS (q : tt σ H fun b H1 => if b = true then t1 D σ H1 else t2 D σ H1) : tIfS tt t1 t2 D σ H := q
/-! branches -/
theorem if_d {c : Prop} [Decidable c] {A B : Prop} (h1 : c → A) (h2 : ¬ c → B) : if decide c = true then A else B := by
  by_cases h : c
  · rw [decide_eq_true h, if_pos rfl]; exact h1 h
  · rw [decide_eq_false h, if_neg Bool.false_ne_true]; exact h2 h
theorem if_nd {c : Prop} [Decidable c] {A B : Prop} (h1 : ¬ c → A) (h2 : c → B) : if (!decide c) = true then A else B := by
  by_cases h : c
  · rw [decide_eq_true h]; exact h2 h
  · rw [decide_eq_false h]; exact h1 h
theorem if_b {b : Bool} {A B : Prop} (h1 : b = true → A) (h2 : b = false → B) : if b = true then A else B := by
  cases b with
  | true => exact h1 rfl
  | false => exact h2 rfl
theorem if_nb {b : Bool} {A B : Prop} (h1 : b = false → A) (h2 : b = true → B) : if (!b) = true then A else B := by
  cases b with
  | true => exact h2 rfl
  | false => exact h1 rfl
theorem if_t {A B : Prop} (h : A) : if true = true then A else B := h
theorem if_f {A B : Prop} (h : B) : if false = true then A else B := h
theorem if_nt {A B : Prop} (h : A) : if (!false) = true then A else B := h
theorem if_nf {A B : Prop} (h : B) : if (!true) = true then A else B := h
/-- the loop of a comprehension over a list at a: test and element read values alone -/
theorem lc_pure {a : Addr} {xs : List V} {g : TG} {vs : List Nat} {D : Addr} {H1 : Hp} {Qd : Hp → Prop} (p : V → Bool) (f : V → V) (hD : H1 D = none) (ha : SqL K H1 a xs) (hz : xs.length < sizeLine)
    (hs : ∀ x ∈ xs, ∀ H, Same H1 H → ∀ R : St → Hp → Prop, (∀ σ2, wipe σ2 vs = wipe σ vs ∧ (∀ Q' : Bool → Hp → Prop, Q' (p x) H → tt σ2 H Q') ∧ (p x = true → ∀ Q' : VK, Q' (f x) H → te σ2 H Q') → R σ2 H) → g x (wipe σ vs) H R)
    (hd : ∀ H', Same H1 H' → H' D = some (.lst ((xs.filter p).map f)) → Qd H') :
    ∃ W : Nat → Nat → Hp → Prop, (∃ m, W 0 m (upd H1 D (.lst []))) ∧ ∀ i m H, W i m H →
      ((Itl K a).stop i H ∧ Qd H) ∨ ((Itl K a).go i H ∧ ∃ Nx : Hp → Prop, (∀ H', Nx H' → ∃ m', m' < m ∧ W (i + 1) m' H') ∧ ∀ x H', (Itl K a).yld i H x H' → g x (wipe σ vs) H' fun σ2 H2 => wipe σ2 vs = wipe σ vs ∧ tt σ2 H2 fun b H3 =>
        if b = true then te σ2 H3 fun y H4 => ∃ acc, H4 D = some (.lst acc) ∧ acc.length < sizeLine ∧ Nx (upd H4 D (.lst (acc ++ [y]))) else Nx H3) := by
  refine lc_list (K := K) (a := a) (xs := xs) (fun i H => Same H1 H ∧ H D = some (.lst (((xs.take i).filter p).map f))) ⟨same_new hD, by rw [upd_same]; rfl⟩ (fun i H _ w => w.1.seq ha) ?_ ?_
  · rintro i x H hi ⟨s, e⟩
    have hx : x ∈ xs := List.mem_of_getElem? hi
    have tk : xs.take (i + 1) = xs.take i ++ [x] := by rw [List.take_add_one, hi]; rfl
    refine hs x hx H s _ fun σ2 ⟨w, h1, h2⟩ => ⟨w, h1 _ ?_⟩
    cases c : p x with
    | true =>
      refine if_t (h2 c _ ⟨_, e, ?_, CP.Same.sb s hD sb_upd, ?_⟩)
      · have q1 := List.length_filter_le p (xs.take i)
        have q2 : (xs.take i).length = min i xs.length := List.length_take
        rw [List.length_map]
        omega
      · rw [upd_same, tk, List.filter_append, List.map_append, List.filter_cons_of_pos c]
        rfl
    | false =>
      refine if_f ⟨s, ?_⟩
      rw [tk, List.filter_append, List.filter_cons_of_neg (by rw [c]; decide), List.filter_nil, List.append_nil]
      exact e
  · rintro H ⟨s, e⟩
    rw [List.take_length] at e
    exact hd H s e
theorem r_sl {r : V → Option Int → Option Int → Hp → VK → Prop} {tl th : TO} (q : te σ H fun x H1 => tl σ H1 fun l H2 => th σ H2 fun u H3 => r x l u H3 Q) : tSl r te tl th σ H Q := q
theorem r_noPart {Q : Option Int → Hp → Prop} (q : Q none H) : tNoPart σ H Q := q
theorem r_part {Q : Option Int → Hp → Prop} (q : te σ H fun x H1 => ∃ i, x = .int i ∧ Q (some i) H1) : tPart te σ H Q := q
theorem r_int {i : Int} {P : Int → Prop} (q : P i) : ∃ k, V.int i = .int k ∧ P k := ⟨i, rfl, q⟩
theorem r_bm {T : String} {r : V → List V → Hp → VK → Prop} (q : ta σ H fun x H1 => tyV K T x H1 ∧ tas σ H1 fun xs H2 => r x xs H2 Q) : tBM K T r ta tas σ H Q := q
theorem r_bm0 {T : String} {r : V → List V → Hp → VK → Prop} (q : ta σ H fun x H1 => tyV K T x H1 ∧ r x [] H1 Q) : tBM0 K T r ta σ H Q := q
/-! loops -/
/-- a while: W tells the slots and the heap by a datum, μ falls -/
theorem r_while {α : Type} {c : TT} {tb : TS} (W : α → St → Hp → Prop) (μ : α → Nat) (a0 : α) (h0 : W a0 σ H)
    (hs : ∀ a σ H, W a σ H → c σ H fun b H1 => if b = true then tb { D with nx := fun σ' H' => ∃ a', W a' σ' H' ∧ μ a' < μ a, ct := fun σ' H' => ∃ a', W a' σ' H' ∧ μ a' < μ a, bk := D.nx } σ H1 else D.nx σ H1)
    (mono : ∀ σ H Q Q', (∀ b H1, Q b H1 → Q' b H1) → c σ H Q → c σ H Q') : tWhile c tb D σ H := by
  refine ⟨fun m σ H => ∃ a, μ a = m ∧ W a σ H, ⟨_, a0, rfl, h0⟩, ?_⟩
  rintro m σ H ⟨a, rfl, w⟩
  refine mono σ H _ _ (fun b H1 q => ?_) (hs a σ H w)
  cases b with
  | true => exact ⟨_, fun σ' H' ⟨a', w', l⟩ => ⟨_, l, a', rfl, w'⟩, q⟩
  | false => exact q
/-- the same where the test's outcome is known by the datum -/
theorem r_whileD {α : Type} {c : TT} {tb : TS} (W : α → St → Hp → Prop) (μ : α → Nat) (go : α → Bool) (a0 : α) (h0 : W a0 σ H)
    (hc : ∀ a σ H, W a σ H → ∀ Q : Bool → Hp → Prop, Q (go a) H → c σ H Q)
    (hs : ∀ a σ H, W a σ H → go a = true → tb { D with nx := fun σ' H' => ∃ a', W a' σ' H' ∧ μ a' < μ a, ct := fun σ' H' => ∃ a', W a' σ' H' ∧ μ a' < μ a, bk := D.nx } σ H)
    (hd : ∀ a σ H, W a σ H → go a = false → D.nx σ H) : tWhile c tb D σ H := by
  refine ⟨fun m σ H => ∃ a, μ a = m ∧ W a σ H, ⟨_, a0, rfl, h0⟩, ?_⟩
  rintro m σ H ⟨a, rfl, w⟩
  refine hc a σ H w _ ?_
  cases e : go a with
  | true =>
    rw [if_pos rfl]
    exact ⟨_, fun σ' H' ⟨a', w', l⟩ => ⟨_, l, a', rfl, w'⟩, hs a σ H w e⟩
  | false =>
    rw [if_neg Bool.false_ne_true]
    exact hd a σ H w e
theorem r_for {wi : TI} {g : TG} {tb : TS} (q : wi σ H fun J H1 => ∃ W : Nat → Nat → St → Hp → Prop, (∃ m, W 0 m σ H1) ∧ ∀ i m σ H, W i m σ H →
    (J.stop i H ∧ D.nx σ H) ∨ (J.go i H ∧ ∃ N : St → Hp → Prop, (∀ σ' H', N σ' H' → ∃ m', m' < m ∧ W (i + 1) m' σ' H') ∧ ∀ x H', J.yld i H x H' → g x σ H' fun σ2 H2 => tb { D with nx := N, ct := N, bk := D.nx } σ2 H2)) : tFor wi g tb D σ H := q
end
section
variable {H : Hp} {Q : VK} {p : Addr}
theorem r_notNr (q : Q (.bl true) H) : rNotN (.ref p) .non H Q := ⟨rfl, by rw [decide_eq_false (fun z => nomatch z)]; exact q⟩
theorem r_notNn (q : Q (.bl false) H) : rNotN .non .non H Q := ⟨rfl, by rw [decide_eq_true rfl]; exact q⟩
theorem r_isNr (q : Q (.bl false) H) : rIsN (.ref p) .non H Q := ⟨rfl, by rw [decide_eq_false (fun z => nomatch z)]; exact q⟩
theorem r_isNn (q : Q (.bl true) H) : rIsN .non .non H Q := ⟨rfl, by rw [decide_eq_true rfl]; exact q⟩
end
end CP

set_option Elab.async false
set_option linter.all false
set_option maxRecDepth 100000
set_option maxHeartbeats 4000000
set_option autoImplicit false
/-! lists of counts as values -/
namespace CP
open L2 PySem PyProof.Rows
def natL (l : List Nat) : List V := l.map fun n : Nat => V.int (n : Int)
theorem natL_int (l : List Nat) : natL l = (l.map fun n : Nat => (n : Int)).map V.int := by
  unfold natL
  rw [List.map_map]
  rfl
theorem natL_app (l m : List Nat) : natL (l ++ m) = natL l ++ natL m := List.map_append
theorem natL_length (l : List Nat) : (natL l).length = l.length := List.length_map _
theorem natL_one (n : Nat) : natL [n] = [.int (n : Int)] := rfl
theorem natL_get {l : List Nat} {i : Nat} {x : V} (h : (natL l)[i]? = some x) : ∃ n, l[i]? = some n ∧ x = .int (n : Int) := by
  unfold natL at h
  rw [List.getElem?_map] at h
  cases e : l[i]? with
  | none => rw [e] at h; cases h
  | some n => rw [e] at h; exact ⟨n, rfl, (Option.some.inj h).symm⟩
theorem take_succ {α : Type} {l : List α} {i : Nat} {n : α} (h : l[i]? = some n) : l.take (i + 1) = l.take i ++ [n] := by
  rw [List.take_add_one, h]
  rfl
theorem foldl_succ {α β : Type} {f : β → α → β} {b : β} {l : List α} {i : Nat} {n : α} (h : l[i]? = some n) : (l.take (i + 1)).foldl f b = f ((l.take i).foldl f b) n := by
  rw [take_succ h, List.foldl_append]
  rfl
theorem natL_flat (l : List Nat) : (natL l).all flatV = true := by
  unfold natL
  rw [List.all_map]
  exact List.all_eq_true.mpr fun _ _ => rfl
theorem inV_nat (n : Nat) (l : List Nat) : inV (.int (n : Int)) (natL l) = l.contains n := by
  unfold inV natL
  induction l with
  | nil => rfl
  | cons a l ih =>
    rw [List.map_cons, List.any_cons, ih, List.contains_cons]
    congr 1
    show ((a : Int) == (n : Int)) = (n == a)
    by_cases e : a = n
    · subst e; simp
    · have e1 : ((a : Int) == (n : Int)) = false := by rw [beq_eq_false_iff_ne]; omega
      have e2 : (n == a) = false := by rw [beq_eq_false_iff_ne]; exact fun z => e z.symm
      rw [e1, e2]
theorem natL_inj {l m : List Nat} (h : natL l = natL m) : l = m := by
  induction l generalizing m with
  | nil =>
    cases m with
    | nil => rfl
    | cons b m => cases h
  | cons a l ih =>
    cases m with
    | nil => cases h
    | cons b m =>
      have h1 := List.cons.inj h
      have e : (a : Int) = b := V.int.inj h1.1
      rw [ih h1.2, Int.ofNat.inj e]
/-- a sorted list of ints without doubles, the same members as a list of counts -/
theorem ints_nat {us : List Int} {l : List Nat} (h1 : us.Pairwise (· < ·)) (h2 : ∀ k, k ∈ us ↔ k ∈ l.map fun n : Nat => (n : Int)) : ∃ m : List Nat, us = m.map (fun n : Nat => (n : Int)) ∧ m.Pairwise (· < ·) ∧ ∀ n, n ∈ m ↔ n ∈ l := by
  have pos : ∀ k ∈ us, ∃ n : Nat, k = (n : Int) := fun k hk => by
    obtain ⟨n, _, e⟩ := List.mem_map.mp ((h2 k).mp hk)
    exact ⟨n, e.symm⟩
  have e : us = (us.map Int.toNat).map (fun n : Nat => (n : Int)) := by
    rw [List.map_map]
    conv => lhs; rw [← List.map_id us]
    refine List.map_congr_left fun k hk => ?_
    obtain ⟨n, rfl⟩ := pos k hk
    rfl
  refine ⟨us.map Int.toNat, e, ?_, fun n => ?_⟩
  · rw [List.pairwise_map]
    refine h1.imp_of_mem fun {a b} ha hb hab => ?_
    obtain ⟨x, rfl⟩ := pos a ha
    obtain ⟨y, rfl⟩ := pos b hb
    simp only [Int.toNat_natCast]
    omega
  · constructor
    · intro h
      obtain ⟨k, hk, rfl⟩ := List.mem_map.mp h
      obtain ⟨x, hx, rfl⟩ := List.mem_map.mp ((h2 k).mp hk)
      simpa using hx
    · intro h
      exact List.mem_map.mpr ⟨(n : Int), (h2 n).mpr (List.mem_map.mpr ⟨n, h, rfl⟩), by simp⟩
theorem inV_two (p a b : Int) : inV (.int p) [.int a, .int b] = decide (p = a ∨ p = b) := by
  unfold inV
  show (a == p || (b == p || false)) = _
  by_cases h1 : p = a
  · subst h1; simp
  · by_cases h2 : p = b
    · subst h2; simp
    · have e1 : (a == p) = false := by rw [beq_eq_false_iff_ne]; exact fun z => h1 z.symm
      have e2 : (b == p) = false := by rw [beq_eq_false_iff_ne]; exact fun z => h2 z.symm
      rw [e1, e2, decide_eq_false (by omega)]
      rfl
theorem count_nat (l : List Nat) (n : Nat) : (l.map fun n : Nat => (n : Int)).count (n : Int) = l.count n := by
  induction l with
  | nil => rfl
  | cons a l ih =>
    rw [List.map_cons, List.count_cons, List.count_cons, ih]
    by_cases e : a = n
    · subst e; simp
    · have e1 : ((a : Int) == (n : Int)) = false := by rw [beq_eq_false_iff_ne]; omega
      have e2 : (a == n) = false := by rw [beq_eq_false_iff_ne]; exact e
      rw [e1, e2]
/-- a loop over a range that may be left early: Post holds behind it -/
theorem for_rangeP {lo : Int} {n : Nat} {g : TG} {tb : TS} {D : Ends} {σ : L2.St} {H : Hp} (Pv : Nat → L2.St → Hp → Prop) (Post : L2.St → Hp → Prop) (h0 : Pv 0 σ H)
    (hs : ∀ i σ H, i < n → Pv i σ H → ∀ B : L2.St → Hp → Prop, (∀ σ H, Post σ H → B σ H) → g (.int (lo + i)) σ H fun σ2 H2 => tb { D with nx := Pv (i + 1), ct := Pv (i + 1), bk := B } σ2 H2)
    (he : ∀ σ H, Pv n σ H → Post σ H) (hd : ∀ σ H, Post σ H → D.nx σ H) :
    ∃ W : Nat → Nat → L2.St → Hp → Prop, (∃ m, W 0 m σ H) ∧ ∀ i m σ H, W i m σ H →
      ((Itr lo n).stop i H ∧ D.nx σ H) ∨ ((Itr lo n).go i H ∧ ∃ N : L2.St → Hp → Prop, (∀ σ' H', N σ' H' → ∃ m', m' < m ∧ W (i + 1) m' σ' H') ∧ ∀ x H', (Itr lo n).yld i H x H' → g x σ H' fun σ2 H2 => tb { D with nx := N, ct := N, bk := D.nx } σ2 H2) :=
  for_range Pv h0 (fun i σ H hi p => hs i σ H hi p _ hd) fun σ H p => hd σ H (he σ H p)
end CP

set_option Elab.async false
set_option linter.all false
set_option maxRecDepth 100000
set_option maxHeartbeats 4000000
/-! sets of ints and of texts made of a list; sorted(set(list)) -/
namespace CP
open PySem L2

/-- the object of a set just made -/
abbrev set0 (w : World) : Obj := { cls := .type "set", dict := none, data := .set #[] 0 (.fresh 0 0 (!w.params.followText "set-order")) }
abbrev lit0 (l : Addr) : Obj := { cls := .type "list_iterator", data := .fields #[.ref l, .int 0 0] }
section
variable {P : Program} {w : World} {A : Around} {E : Value → Shared → Prop} {s : Shared} {Fin : Heap → Prop}
set_option maxRecDepth 100000 in
set_option maxHeartbeats 4000000 in
/-- set(l), l a list: its loop is what the caller says (it leaves the set as Fin tells) -/
theorem set_of_list {l : Addr} {items : Array Value} {Q : Value → Shared → Prop} (hl : s.heap.IsList l items)
    (loop : ∀ (A' : Around) (R : Result → Shared → Prop) (s1 : Shared), A'.handled = A.handled → s1.heap = (s.heap.push (set0 w)).push (lit0 l) →
      (∀ s', Moved [s.heap.objs.size, s.heap.objs.size + 1] (fun a b => b = a) s1 s' → Fin s'.heap → R (.ok (.ret .none)) s') →
      codeAny (model P w) A' (.builtin "set.update.loop" ⟨[.ref s.heap.objs.size, .ref (s.heap.objs.size + 1)], []⟩) R s1)
    (h : ∀ (h' : Heap) (tk : Nat), Fin h' → (∀ b o, s.heap.get? b = some o → h'.get? b = some o) → Q (.ref s.heap.objs.size) { s with heap := h', toks := tk }) :
    wpAny (model P w) A (call (.type "set") [.ref l]) Q E s := by
  have f1 := F.called_set.made
  have f2 := F.called_set.sub
  have f3 := F.called_set.notType
  have f4 := F.called_set.canCreate
  have f5 := F.typeCall_set_1 (.ref l)
  obtain ⟨cn, tl, f6⟩ := F.called_set.mro
  refine wpAny_call (codeAny_of_tree ?_)
  show wpAny _ _ (callAny (.type "set") _) _ _ _
  have e0 := weight_type_call_type "set" [.ref l] []
  refine wpAny_pure ⟨Code.quiet_builtin _ (by decide +kernel),
    codeAny_builtin F.entry_type_call ?_⟩
  rw [Around.under_plain e0 rfl]
  repeat (any_goals (first | assumption | wp_step))
  refine codeAny_mono (code_set_led1 (.ref l) (E := E)
    (Q₁ := fun v s₁ => v = .ref s.heap.objs.size ∧ s₁ = { s with heap := s.heap.push (set0 w) }) ⟨rfl, rfl⟩) fun r s₁ hr => ?_
  cases r with
  | error e => exact hr
  | ok fl =>
    cases fl with
    | ret obj =>
      obtain ⟨rfl, rfl⟩ := hr
      have g0 : (s.heap.push (set0 w)).get? s.heap.objs.size = some (set0 w) := Heap.get?_push_size _ rfl
      have gT : Shared.TypeIs { s with heap := s.heap.push (set0 w) } (.ref s.heap.objs.size) "set" := ⟨_, g0, rfl⟩
      have f7 := F.called_set.init.lookup
      have f8 := F.called_set.init.bind (.ref s.heap.objs.size)
      repeat (any_goals (first | assumption | wp_step))
      refine codeAny_mono (codeAny_call_builtin
        (R := wants (fun r s₂ => r = .none ∧ ∃ h' tk, s₂ = { s with heap := h', toks := tk } ∧ Fin h' ∧ ∀ b o, s.heap.get? b = some o → h'.get? b = some o) E)
        F.called_set.init.plain F.entry_set_init (check_set_init_1 gT ?_)) fun r₂ s₂ hr₂ => ?_
      · obtain ⟨ol, hol, hcl, nl, hdl⟩ := hl
        obtain ⟨c1, c2, c3, c4⟩ := ol
        simp only at hcl hdl
        subst hcl; subst hdl
        have hol' : (s.heap.push (set0 w)).get? l = some { cls := .type "list", dict := c2, data := .seq items nl, slots := c4 } := Heap.get?_push_of_some _ hol
        have u1 := F.sub_list_set
        have u2 := F.sub_list_frozenset
        have u3 : (Value.type "list" == Value.type "dict") = false := by decide
        have hl1 : (s.heap.push (set0 w)).IsList l items := ⟨_, hol', rfl, nl, rfl⟩
        clear f1 f2 f3 f4 f5 f6 f7 f8 e0 g0 gT h
        unfold Builtin.«set.__init__» noKeywords Builtin.Frozenset.updateFrom
        generalize hPI : pyIter = PI
        wp_walk
        subst hPI
        refine wpAny_pyIter_list hl1 ?_
        refine wpAny_bind (wpAny_runValue ?_)
        have z1 : (s.heap.push (set0 w)).objs.size = s.heap.objs.size + 1 := Heap.size_push ..
        rw [z1]
        refine loop _ _ _ (by simp) rfl fun s' hm hF => ?_
        obtain ⟨h', g2, d', tk', os'⟩ := s'
        have q1 : g2 = s.gens := hm.gens
        have q2 : d' = s.drawn := hm.drawn
        have q3 : os' = s.os := hm.os
        subst q1; subst q2; subst q3
        show wpAny _ _ _ _ _ _
        refine wpAny_pure ?_
        show wpAny _ _ (ret Value.none) _ _ _
        refine wpAny_pure ⟨rfl, h', tk', rfl, hF, fun b o e => ?_⟩
        have lt := Heap.lt_size e
        refine hm.heap b o (fun z => ?_) (Heap.get?_push_of_some _ (Heap.get?_push_of_some _ e))
        rcases List.mem_cons.mp z with z | z
        · exact absurd z (Nat.ne_of_lt lt)
        · exact absurd (List.mem_singleton.mp z) (Nat.ne_of_lt (Nat.lt_succ_of_lt lt))
      · cases r₂ with
        | error e => exact hr₂
        | ok fl₂ =>
          cases fl₂ with
          | ret r =>
            obtain ⟨rfl, h', tk, rfl, hF, hk⟩ := hr₂
            repeat (any_goals (first | assumption | wp_step))
            exact h _ _ hF hk
          | _ => exact hr₂.elim
    | _ => exact hr.elim
end
end CP

set_option Elab.async false
set_option linter.all false
set_option maxRecDepth 100000
set_option maxHeartbeats 4000000
/-! sets of ints made of a list; sorted(set(list)) -/
namespace CP
open PySem L2
section
variable {P : Program} {w : World} {A : Around} {E : Value → Shared → Prop} {s : Shared}
/-- the loop over ints -/
theorem loop_ints {l : Addr} {items : Array Value} {ns : List Int} (hh : A.handled = none) (hl : s.heap.IsList l items) (hi : PyProof.Rows.IntsAre items.toList ns) (hb : ns.length + 1 < scanBound) :
    ∀ (A' : Around) (R : Result → Shared → Prop) (s1 : Shared), A'.handled = A.handled → s1.heap = (s.heap.push (set0 w)).push (lit0 l) →
      (∀ s', Moved [s.heap.objs.size, s.heap.objs.size + 1] (fun a b => b = a) s1 s' → (∃ c, c ≤ ns.length ∧ SetR w s'.heap s.heap.objs.size (fun j => decide (j ∈ ns)) c) → R (.ok (.ret .none)) s') →
      codeAny (model P w) A' (.builtin "set.update.loop" ⟨[.ref s.heap.objs.size, .ref (s.heap.objs.size + 1)], []⟩) R s1 := by
  intro A' R s1 hA e1 k
  have hsz : items.size = ns.length := by
    have q := PyProof.Rows.IntsAre.length hi
    rwa [Array.length_toList] at q
  have hlt : l < s.heap.objs.size := by
    obtain ⟨o, e, _⟩ := hl
    exact Heap.lt_size e
  have z1 : (s.heap.push (set0 w)).objs.size = s.heap.objs.size + 1 := Heap.size_push ..
  have g0 : s1.heap.get? s.heap.objs.size = some (set0 w) := by
    rw [e1]; exact Heap.get?_push_of_some _ (Heap.get?_push_size _ rfl)
  have gI : s1.heap.get? (s.heap.objs.size + 1) = some (lit0 l) := by
    have q := Heap.get?_push_size (o := lit0 l) (s.heap.push (set0 w)) rfl
    rw [z1] at q
    rw [e1]; exact q
  have gl : s1.heap.IsList l items := by rw [e1]; exact (hl.push _).push _
  have W := (Walks.list (prog := P) (w := w) (A := A'.in1) (by simp [hA, hh]) (s.heap.objs.size + 1) l (Nat.ne_of_lt (Nat.lt_succ_of_lt hlt)) items).toS
  refine set_update_ints W s.heap.objs.size ?_ ns hsz hb ?_ (items.size - 0) 0 s1 rfl (Nat.zero_le _) ⟨⟨_, gI, rfl, rfl⟩, gl⟩ ⟨0, Nat.le_refl 0, setR_new_at g0⟩ fun s' c hm hc hS => ?_
  · intro z
    rcases List.mem_cons.mp z with z | z
    · exact absurd z (Nat.ne_of_lt (Nat.lt_succ_self _))
    · exact absurd (List.mem_singleton.mp z) (Nat.ne_of_gt hlt)
  · intro i v hv
    have hin : i < ns.length := by rw [← hsz]; exact (Array.getElem?_eq_some_iff.mp hv).1
    obtain ⟨t, e⟩ := PyProof.Rows.IntsAre.int_at hi i v (by rw [Array.getElem?_toList]; exact hv)
    refine ⟨ns[i], t, List.getElem?_eq_getElem hin, ?_⟩
    rw [e, List.getD_eq_getElem?_getD, List.getElem?_eq_getElem hin]
    rfl
  · exact k s' hm ⟨c, by omega, hS⟩
end
/-- set(xs), a list of ints -/
def rSetI (K : PySem.W.Frag) (w : World) : List V → Hp → VK → Prop := fun xs H Q => ∃ (l : Addr) (ns : List Int), xs = [.ref l] ∧ SqL K H l (ns.map V.int) ∧ ns.length < 4000 ∧
  ∀ p c, H p = none → c ≤ ns.length → Q (.ref p) (upd H p (SetO w p (fun j => decide (j ∈ ns)) c))
section
variable {X : Cx}
theorem cr_setI (hc : X.calm = true) : CallR X (.type "set") (rSetI X.K X.w) := by
  intro pins s σ H xs us Q I r h
  obtain ⟨l, ns, rfl, hl, hn, q⟩ := h
  obtain ⟨u, rfl, ru⟩ := vals1 r
  cases (show u = Value.ref l from ru)
  obtain ⟨its, rv, pl, hz⟩ := I.list hl
  have hi : PyProof.Rows.IntsAre its.toArray.toList ns := by simpa using ints_of_vals rv
  have hd : X.A.handled = none := I.ok.hd hc
  refine set_of_list (P := X.prog) (w := X.w) (Fin := fun h => ∃ c, c ≤ ns.length ∧ SetR X.w h s.heap.objs.size (fun j => decide (j ∈ ns)) c) pl.isList (loop_ints hd pl.isList hi (by unfold scanBound; omega)) fun h' tk hF hk => ?_
  obtain ⟨c, hc', R⟩ := hF
  have fr := I.hok.fresh (Nat.le_refl s.heap.objs.size)
  exact ⟨.ref s.heap.objs.size, _, I.laid (t' := tk) hk (Nat.le_refl _) (setO_new R), rfl, q _ _ fr hc'⟩
end
/-- sorted(set(xs)), a list of less than 64 ints: from where set is called -/
theorem r_sortSetI {K : PySem.W.Frag} {w : World} {σ : St} {H : Hp} {Q : VK} {l : Addr} {ns : List Int} (hl : SqL K H l (ns.map V.int)) (hn : ns.length < 64)
    (k : ∀ (us : List Int) (p : Addr) (H' : Hp), us.Pairwise (· < ·) → (∀ k, k ∈ us ↔ k ∈ ns) → Same H H' → H p = none → H' p = some (.lst (us.map V.int)) → Q (.ref p) H') :
    rSetI K w [.ref l] H fun x H1 => tNil σ H1 fun xs H2 => rSortedSet w (x :: xs) H2 Q := by
  refine ⟨l, ns, rfl, hl, by omega, fun p c hp hc => ?_⟩
  refine r_nil ⟨p, _, c, rfl, upd_same, by omega, fun us p2 hu hk he h2 => ?_⟩
  have h3 : H p2 = none := by
    by_cases e : p2 = p
    · rw [e, upd_same] at h2; cases h2
    · rwa [upd_ne e] at h2
  exact k us p2 _ hu (fun z => by rw [hk]; simp) ((same_new hp).trans (same_new h2)) h3 upd_same
end CP

set_option Elab.async false
set_option linter.all false
set_option maxRecDepth 100000
set_option maxHeartbeats 4000000
set_option autoImplicit false
/-! sorted(d.items()), d a dict of ints by ints -/
namespace CP
open L2 PySem PyProof.Rows

/-- the pair of ints that a value is at a heap -/
def pairOf (h : Heap) (v : Value) : Int × Int := match v with
  | .ref a => match h.get? a with
    | some o => match o.data with
      | .seq xs _ => match xs.toList with
        | [.int x _, .int y _] => (x, y)
        | _ => (0, 0)
      | _ => (0, 0)
    | none => (0, 0)
  | _ => (0, 0)
theorem pairOf_is {h : Heap} {v : Value} {x y : Int} (p : Srt.IsPair h v x y) : pairOf h v = (x, y) := by
  obtain ⟨a, o, t, u, n, rfl, ho, hc, hd⟩ := p
  unfold pairOf
  simp only [ho, hd]
section
variable {P : Program} {w : World} {A : Around} {E : Value → Shared → Prop} {s : Shared}
theorem call_sortedItems {r d : Addr} {ep : Nat} {kvs : List (Key × Value)} {Q : Value → Shared → Prop} (hh : A.handled = none) (hv : s.heap.IsItemsView r d) (hm : s.heap.DictAt (mixKind P w) d kvs ep) (hn : kvs.length ≤ sizeLine) (hne : kvs ≠ [])
    (hi : ∀ p ∈ kvs, ∃ (i j : Int) (t : Tok), p = (Sum.inl i, Value.int j t))
    (h : ∀ (h' : Heap) (tk : Nat) (l : Addr) (as : List Addr) (out : List Value), (∀ b o, s.heap.get? b = some o → h'.get? b = some o) → s.heap.objs.size ≤ l → (∀ a ∈ as, s.heap.objs.size ≤ a ∧ a < l) → as.Nodup →
      as.length = kvs.length → (∀ (j : Nat) (a : Addr), as[j]? = some a → ∃ (x y : Int) (t : Tok), kvs[j]? = some (Sum.inl x, Value.int y t) ∧ Srt.IsPair h' (.ref a) x y) →
      out.Perm (as.map Value.ref) → out.Pairwise (fun u v => SrtO.lexB (pairOf h' v) (pairOf h' u) = false) → (∃ n, h'.get? l = some (seqObj "list" out.toArray n)) → Q (.ref l) { s with heap := h', toks := tk }) :
    wpAny (model P w) A (call (.builtin "sorted") [.ref r]) Q E s := by
  refine Calls.call_function_entry kind_sorted plain_sorted entry_sorted (args_sorted1 _) ?_
  unfold Builtin.«sorted»
  refine wpAny_bind (m := checkCount "sorted" 1 1 _) (wpAny_pure ?_)
  refine wpAny_bind (PySem.W.kdx_collect (knd := mixKind P w) (kvs := kvs) (ep := ep) (A := A.in1) hh hv hm hn fun h1 tk as k1 hl hG => ?_)
  have hlen : (as.map Value.ref).length ≤ sizeLine := by rw [List.length_map, hl]; exact hn
  refine wpAny_bind (wpAny_newList ?_ hlen)
  have pr : ∀ (j : Nat) (a : Addr), as[j]? = some a → ∃ (x y : Int) (t : Tok), kvs[j]? = some (Sum.inl x, Value.int y t) ∧ Srt.IsPair h1 (.ref a) x y := fun j a e => by
    obtain ⟨key, k, x, e1, e2, e3⟩ := hG.pairs j a e
    obtain ⟨i, y, t, ep⟩ := hi _ (List.mem_of_getElem? e1)
    cases ep
    obtain ⟨t2, rfl⟩ : ∃ t2, key = Value.int i t2 := Value.isInt_shape (show Value.isInt i key = true from e2)
    exact ⟨i, y, t, e1, a, _, t2, t, _, rfl, e3, rfl, rfl⟩
  have hp : ∀ v ∈ as.map Value.ref, Srt.IsPair h1 v (pairOf h1 v).1 (pairOf h1 v).2 := fun v hv => by
    obtain ⟨a, ha, rfl⟩ := List.mem_map.mp hv
    obtain ⟨j, hj⟩ := List.mem_iff_getElem?.mp ha
    obtain ⟨x, y, t, _, q⟩ := pr j a hj
    rw [pairOf_is q]
    exact q
  have hoL : (h1.push (seqObj "list" (as.map Value.ref).toArray 0)).get? h1.objs.size = some (seqObj "list" (as.map Value.ref).toArray 0) := Heap.get?_push_size _ rfl
  have sz : s.heap.objs.size ≤ h1.objs.size := by
    cases as with
    | nil => exact absurd (List.length_eq_zero_iff.mp hl.symm) hne
    | cons a l =>
      have q1 := hG.above a (List.mem_cons_self ..)
      have q2 := hG.there (List.mem_cons_self ..)
      exact Nat.le_of_lt (Nat.lt_trans q1 q2)
  refine wpAny_bind (wpAny_holding (wpAny_call_entry slot_list_sort ⟨_, hoL, rfl⟩ entry_list_sort (SrtO.list_sort_ord (SrtO.swo_lex (pairOf h1)) hoL hlen (fun h2 => SrtO.pairs_sortableO (by omega) (fun v hv => (hp v hv).keeps fun b o e _ => Heap.get?_push_of_some _ e) fun o e => ?_) fun out hs hb => ⟨_, rfl, ?_⟩) (args_list_sort _)))
  · have e' := e.symm.trans hoL
    cases e'
    intro c
    exact absurd (Value.type.inj c) (by decide)
  · refine wpAny_pure ⟨_, rfl, ?_⟩
    have old : ∀ b o, h1.get? b = some o → (sortedHeap (h1.push (seqObj "list" (as.map Value.ref).toArray 0)) h1.objs.size (as.map Value.ref) out.toArray).get? b = some o := fun b o e => by
      have lt := Heap.lt_size e
      rw [sortedHeap_old (Nat.ne_of_lt lt) (by rw [Heap.size_push]; exact Nat.lt_succ_of_lt lt)]
      exact Heap.get?_push_of_some _ e
    have pe : ∀ v, v ∈ as.map Value.ref → pairOf (sortedHeap (h1.push (seqObj "list" (as.map Value.ref).toArray 0)) h1.objs.size (as.map Value.ref) out.toArray) v = pairOf h1 v := fun v hv =>
      pairOf_is ((hp v hv).keeps fun b o e _ => old b o e)
    refine h _ tk h1.objs.size as out (fun b o e => old b o (k1 b o e)) sz (fun a ha => ⟨Nat.le_of_lt (hG.above a ha), hG.there ha⟩) (hG.rise.imp fun {a b} (z : a < b) => Nat.ne_of_lt z) hl (fun j a e => ?_) hb.perm ?_ ?_
    · obtain ⟨x, y, t, e1, q⟩ := pr j a e
      exact ⟨x, y, t, e1, q.keeps fun b o e _ => old b o e⟩
    · have hs' : out.Pairwise fun u v => SrtO.lexB (pairOf h1 v) (pairOf h1 u) = false := hs
      refine hs'.imp_of_mem fun {u v} hu hv z => ?_
      rw [pe u (hb.perm.mem_iff.mp hu), pe v (hb.perm.mem_iff.mp hv)]
      exact z
    · exact sortedHeap_at hoL
end
/-- a list of tuples of two ints -/
def PairsAt (H : Hp) (p : Addr) (qs : List (Int × Int)) : Prop := ∃ ts : List Addr, H p = some (.lst (ts.map V.ref)) ∧ Paired (fun (t : Addr) (q : Int × Int) => H t = some (.tup [.int q.1, .int q.2])) ts qs
/-- pairs in order: by the first, then the second -/
def PLe (p q : Int × Int) : Prop := p.1 < q.1 ∨ (p.1 = q.1 ∧ p.2 ≤ q.2)
def tSortedItems (te : TE) : TE := fun σ H Q => te σ H fun x H1 => ∃ (d : Addr) (ps : List (Int × Int)), x = .ref d ∧ H1 d = some (.dK (ps.map fun p => (Sum.inl p.1, V.int p.2))) ∧ ps ≠ [] ∧
  ∀ (qs : List (Int × Int)) (p : Addr) (H' : Hp), qs.Perm ps → qs.Pairwise PLe → Same H1 H' → H1 p = none → PairsAt H' p qs → Q (.ref p) H'
theorem kv_ints : ∀ {ps : List (Int × Int)} {vs : List (Key × Value)}, KV (ps.map fun p => ((Sum.inl p.1 : Key), V.int p.2)) vs → ∀ p ∈ vs, ∃ (i j : Int) (t : Tok), p = (Sum.inl i, Value.int j t)
  | [], _, .nil, p, h => by cases h
  | a :: ps, _, .cons r t, p, h => by
    rcases List.mem_cons.mp h with e | h
    · subst e
      obtain ⟨e1, tk, e2⟩ := r
      exact ⟨a.1, a.2, tk, Prod.ext e1.symm e2⟩
    · exact kv_ints t p h
theorem kv_at : ∀ {ps : List (Int × Int)} {vs : List (Key × Value)}, KV (ps.map fun p => ((Sum.inl p.1 : Key), V.int p.2)) vs → ∀ (j : Nat) (x y : Int) (t : Tok), vs[j]? = some (Sum.inl x, Value.int y t) → ps[j]? = some (x, y)
  | [], _, .nil, j, x, y, t, h => by cases h
  | a :: ps, _, .cons r tl, 0, x, y, t, h => by
    obtain ⟨e1, tk, e2⟩ := r
    cases h
    have e3 := Sum.inl.inj e1
    cases e2
    exact congrArg some (Prod.ext e3 rfl)
  | a :: ps, _, .cons r tl, j + 1, x, y, t, h => kv_at tl j x y t h
/-- the addresses of a list of references -/
def adr (v : Value) : Addr := match v with
  | .ref a => a
  | _ => 0
section
variable {X : Cx} {e : Expr} {te : TE} {p apos cpos pos : Pos}
theorem pe_sortedItems (hc : X.calm = true) (he : PE X e te) (hg : Gl X "sorted") (hm : X.mg "sorted" = none) (hbase : attributeBase e "items" X.env (eval e X.env) = eval e X.env := by rfl) (hline : (apos.endLine == cpos.line) = true := by rfl)
    (hs : starEach [.Call (.Attribute e "items" apos) [] [] cpos] X.env = (false, eval (.Call (.Attribute e "items" apos) [] [] cpos) X.env) :: starEach [] X.env := by rfl) :
    PE X (.Call (.Name "sorted" p) [.Call (.Attribute e "items" apos) [] [] cpos] [] pos) (tSortedItems te) := by
  refine ⟨fun pins s σ H Q I hq => ?_⟩
  have hb : bootBuiltins "sorted" = some (.builtin "sorted") := by decide +kernel
  refine wpAny_Call_Name_kw (ld_blt I hg hm hb ?_)
  refine PyProof.Rows.callWith_builtin1 ?_ hs rfl
  rw [hs]
  show wpAny _ _ (spliced ((false, eval (.Call (.Attribute e "items" apos) [] [] cpos) X.env) :: backTo pos (starEach [] X.env))) _ _ s
  refine Calls.spliced_cons ?_
  refine wpAny_Call_method (T := "dict") (id := "dict.items") hbase rfl hline F.plainAttrs_dict F.slot_dict_items F.type_dict_items
    (thn (he.run pins s σ H _ I hq) fun u s1 ⟨x, H1, I1, rx, d, ps, ex, hd, hne, q⟩ => ?_)
  subst ex
  cases (show u = Value.ref d from rx)
  obtain ⟨hz, hs0, vs, kv, hdo⟩ := I1.hok d _ hd
  obtain ⟨ep, hat⟩ := hdo.dictAt
  have lk := Paired.length kv
  rw [List.length_map] at lk hz
  have I2 : Inv X pins σ H1 { s1 with heap := s1.heap.push { cls := .type "dict_items", data := .fields #[.ref d] } } := I1.kept (t' := s1.toks) fun b ob q => Heap.get?_push_of_some _ q
  refine ⟨hdo.typeIs, hdo.mapOf.noDict, ?_⟩
  show wpAny _ _ (callWith cpos (.builtin "dict.items") [.ref d] [] []) _ X.xe s1
  refine method_meetsIn F.slot_dict_items F.entry_dict_items rfl (PySem.evalArgs_none ⟨rfl, hdo.typeIs, F.args_dict_items_1 _, _, meets_dict_items (mixKind X.prog X.w) d hs0, ⟨vs, hdo⟩, ?_⟩)
  refine Calls.spliced_nil ?_
  have hps : 0 < ps.length := List.length_pos_iff.mpr hne
  refine call_sortedItems (kvs := vs) (ep := ep) (I1.ok.hd hc) ⟨_, Heap.get?_push_size _ rfl, rfl, rfl⟩ (hat.push _) (by omega) (fun z => by rw [z, List.length_nil] at lk; omega) (kv_ints kv) fun h' tk l as out k1 k2 k3 k4 k5 k6 k7 k8 k9 => ?_
  -- where each tuple stands
  have pt : ∀ (j : Nat) (a : Addr), as[j]? = some a → ∃ x y, ps[j]? = some (x, y) ∧ Srt.IsPair h' (.ref a) x y := fun j a ej => by
    obtain ⟨x, y, t, e1, e2⟩ := k6 j a ej
    exact ⟨x, y, kv_at kv j x y t e1, e2⟩
  have fr : ∀ b, s1.heap.objs.size + 1 ≤ b → H1 b = none := fun b hb => I2.hok.fresh (by rw [Heap.size_push]; exact hb)
  rw [Heap.size_push] at k2 k3
  have nl : l ∉ as := fun z => Nat.lt_irrefl _ (k3 l z).2
  let H' : Hp := fun b => if b = l then some (.lst ((out.map adr).map V.ref)) else if b ∈ as then some (.tup [.int (pairOf h' (.ref b)).1, .int (pairOf h' (.ref b)).2]) else H1 b
  have hl' : H' l = some (.lst ((out.map adr).map V.ref)) := if_pos rfl
  have ha' : ∀ a ∈ as, H' a = some (.tup [.int (pairOf h' (.ref a)).1, .int (pairOf h' (.ref a)).2]) := fun a ha => by
    show (if a = l then _ else _) = _
    rw [if_neg (fun z : a = l => nl (by rw [← z]; exact ha)), if_pos ha]
  have ext : Same H1 H' := fun b o eb => by
    show (if b = l then _ else _) = _
    rw [if_neg (fun z => by rw [z, fr l k2] at eb; cases eb), if_neg (fun z => by rw [fr b (k3 b z).1] at eb; cases eb)]
    exact eb
  have outr : ∀ v ∈ out, ∃ a, a ∈ as ∧ v = Value.ref a := fun v hv => by
    obtain ⟨a, ha, rfl⟩ := List.mem_map.mp (k7.mem_iff.mp hv)
    exact ⟨a, ha, rfl⟩
  have vr : ∀ l : List Value, (∀ v ∈ l, ∃ a, a ∈ as ∧ v = Value.ref a) → Vals ((l.map adr).map V.ref) l := by
    intro l
    induction l with
    | nil => intro _; exact .nil
    | cons v l ih =>
      intro hl
      obtain ⟨a, _, rfl⟩ := hl v (List.mem_cons_self ..)
      exact .cons rfl (ih fun u hu => hl u (List.mem_cons_of_mem _ hu))
  have len : out.length = ps.length := by rw [k7.length_eq, List.length_map, k5, ← lk]
  have J : Inv X pins σ H' { s1 with heap := h', toks := tk } := inv_grow (s := s1) (tk := tk) I1 (fun b o e => k1 b o (Heap.get?_push_of_some _ e)) ext fun b o eb => by
    by_cases h1 : b = l
    · subst h1
      rw [hl'] at eb
      cases eb
      obtain ⟨n, hn⟩ := k9
      refine .inr ⟨Nat.le_of_succ_le k2, by rw [List.length_map, List.length_map]; omega, out, n, vr out outr, hn⟩
    · by_cases h2 : b ∈ as
      · rw [ha' b h2] at eb
        cases eb
        obtain ⟨j, hj⟩ := List.mem_iff_getElem?.mp h2
        obtain ⟨x, y, _, ip⟩ := pt j b hj
        rw [pairOf_is ip]
        obtain ⟨a, ob, t, u, n, ea, g1, g2, g3⟩ := ip
        cases ea
        refine .inr ⟨Nat.le_of_succ_le (k3 b h2).1, by show 2 ≤ sizeLine; decide, [.int x t, .int y u], .cons ⟨t, rfl⟩ (.cons ⟨u, rfl⟩ .nil), ob, g1, g2, n, g3⟩
      · have e3 : H' b = H1 b := by
          show (if b = l then _ else _) = _
          rw [if_neg h1, if_neg h2]
        rw [e3] at eb
        exact .inl eb
  refine ⟨.ref l, H', J, rfl, q (out.map (pairOf h')) l H' ?_ ?_ ext (fr l k2) ⟨out.map adr, hl', ?_⟩⟩
  · refine (k7.map (pairOf h')).trans ?_
    rw [List.map_map]
    refine List.Perm.of_eq ?_
    apply List.ext_getElem?
    intro j
    rw [List.getElem?_map]
    cases ej : as[j]? with
    | none =>
      have : as.length ≤ j := List.getElem?_eq_none_iff.mp ej
      rw [List.getElem?_eq_none (by omega)]
      rfl
    | some a =>
      obtain ⟨x, y, e1, ip⟩ := pt j a ej
      rw [e1]
      show some (pairOf h' (.ref a)) = _
      rw [pairOf_is ip]
  · rw [List.pairwise_map]
    refine k8.imp fun {u v} z => ?_
    have z := SrtO.lexB_no.mp z
    show _ ∨ _
    omega
  · have pr : ∀ l : List Value, (∀ v ∈ l, ∃ a, a ∈ as ∧ v = Value.ref a) → Paired (fun (t : Addr) (q : Int × Int) => H' t = some (.tup [.int q.1, .int q.2])) (l.map adr) (l.map (pairOf h')) := by
      intro l
      induction l with
      | nil => intro _; exact .nil
      | cons v l ih =>
        intro hl
        obtain ⟨a, ha, rfl⟩ := hl v (List.mem_cons_self ..)
        exact .cons (ha' a ha) (ih fun u hu => hl u (List.mem_cons_of_mem _ hu))
    exact pr out outr
end
end CP

set_option Elab.async false
set_option linter.all false
set_option maxRecDepth 100000
set_option maxHeartbeats 4000000
set_option autoImplicit false
/-! calls with keywords alone; what a call with keywords binds -/
namespace CP
open L2 PySem PyProof.Rows

def tCallW (m : Nat) (sp : Sp) (gV : List V → List V) (E : XK) (tk : TA) : TE := fun σ H Q => tk σ H fun zs H2 => zs.length = m ∧ sp (gV zs) H2 Q E
/-- the keywords' values in the parameters' order -/
structure KB0 (K : PySem.W.Frag) (fd : FuncData) (ps ks : List Str) (g : List Value → List Value) (gV : List V → List V) : Prop where
  to : ∀ (s : Shared) (ws : List Value), K.In s.heap → ws.length = ks.length → BindsTo s fd ⟨[], ks.zip ws⟩ (ps.zip (g ws))
  rel : ∀ {zs : List V} {ws : List Value}, Vals zs ws → zs.length = ks.length → Vals (gV zs) (g ws)
section
variable {X : Cx} {CX : CXT} {k m : Nat} {f : Addr} {fd : FuncData} {ps ks : List Str} {sp : Sp} {E : XK} {x : Str} {p pos : Pos} {kws : List Keyword} {tk : TA} {g : List Value → List Value} {gV : List V → List V}
theorem pe_callW (F : FnOk X.prog X.w X.K X.mg X.base CX k f fd ps sp) (hr : Room k X.A) (hg : Gl X x) (hm : X.mg x = some (.ref f)) (hk : PySem.W.keepIn X.K (.ref f) = true) (hb : KB0 X.K fd ps ks g gV) (hx : Passes CX X E) (hkw : PK X kws tk)
    (hall : (backToKw pos (keywordEach kws X.env)).all (·.1.isSome) = true := by rfl) (hks : (backToKw pos (keywordEach kws X.env)).filterMap (·.1) = ks := by rfl) (hlen : ks.length = m := by rfl) (hdb : (x == ("__debug__" : Str)) = false := by decide)
    (hpl : ((backTo pos (starEach [] X.env)).any (·.1) || (backToKw pos (keywordEach kws X.env)).any (·.1.isNone)) = false := by rfl) :
    PE X (.Call (.Name x p) [] kws pos) (tCallW m sp gV E tk) := by
  subst hlen
  refine ⟨fun pins s σ H Q I h => ?_⟩
  refine wpAny_Call_Name_kw (ld_glob I hg hm ?_ hdb)
  refine PySem.W.callWith_KW0 (h₀ := X.base) I.ok.mod.kin hk hall (thn (hkw.run pos pins s σ H _ I h) fun ws s1 ⟨zs, H1, I1, r, l, q⟩ => ⟨I1.kIn, ?_⟩) hpl
  rw [hks]
  have lw : ws.length = ks.length := r.length.symm.trans l
  refine wpAny_call (codeAny_mono (F.run X.A X.stack s1 H1 ⟨[], ks.zip ws⟩ (g ws) (gV zs) Q E hr I1.env0 (hb.to s1 ws I1.kIn lw) (hb.rel r l) q) fun r s' hq => ?_)
  cases r with
  | error e => exact hx pins σ H1 s1 e s' I1 hq
  | ok fl =>
    cases fl with
    | ret u => exact I1.after hq
    | next => exact False.elim hq
    | brk => exact False.elim hq
    | cont => exact False.elim hq
end
/-- a def without defaults -/
theorem Fun.kb {K : PySem.W.Frag} {x qual : Str} {st : Stmt} {f : Addr} {fd : FuncData} {ps ks : List Str} {g : List Value → List Value} {gV : List V → List V} (F : Fun K x qual st f fd)
    (h : ∀ (kV doc pm : Value) (an : Option Addr) (cdv ct : Value) (ws : List Value), ws.length = ks.length → bindArgs (PySem.W.fnOf x qual (defArgs st) (defBody st) (defScope st) .none kV doc pm an cdv ct) ⟨[], ks.zip ws⟩ = pure (ps.zip (g ws)))
    (hr : ∀ {zs : List V} {ws : List Value}, Vals zs ws → zs.length = ks.length → Vals (gV zs) (g ws)) : KB0 K fd ps ks g gV := by
  obtain ⟨oc, od, kV, doc, pm, an, cdv, ct, osl, rfl, lk, hcd⟩ := F.ex
  exact ⟨fun s ws _ hl => .of_eq (h kV doc pm an cdv ct ws hl), hr⟩
/-- a def with defaults -/
theorem FunD.kb {K : PySem.W.Frag} {x qual : Str} {params : Arguments} {body : List Stmt} {scope : Scope} {dvs : List V} {f : Addr} {fd : FuncData} {ps ks : List Str} {g : List Value → List Value → List Value} {gV : List V → List V} (F : FunD K x qual params body scope dvs [] f fd) (hd : dvs ≠ [])
    (h : ∀ (T : Addr) (kV doc pm : Value) (an : Option Addr) (cdv ct : Value) (its ws : List Value), its.length = dvs.length → ws.length = ks.length →
      ∃ k, bindArgs (PySem.W.fnOf x qual params body scope (.ref T) kV doc pm an cdv ct) ⟨[], ks.zip ws⟩ = seqItems? (.ref T) >>= k ∧ k (some its.toArray) = pure (ps.zip (g its ws)))
    (hr : ∀ {its : List Value} {zs : List V} {ws : List Value}, Vals dvs its → Vals zs ws → zs.length = ks.length → Vals (gV zs) (g its ws)) : ∃ its, KB0 K fd ps ks (g its) gV := by
  obtain ⟨oc, od, dV, kV, doc, pm, an, cdv, ct, osl, rfl, lk, hcd, hD, hK⟩ := F.ex
  rcases hD with ⟨e, _⟩ | ⟨_, T, o, its, m, rfl, lT, oT, rT⟩
  · exact absurd e hd
  · refine ⟨its, fun s ws X hl => ?_, fun r l => hr rT r l⟩
    obtain ⟨k, e1, e2⟩ := h T kV doc pm an cdv ct its ws rT.length.symm hl
    refine BindsTo.of_looks fun M => ?_
    rw [e1]
    exact looks_items X lT oT (.of_pure e2)
section
variable {σ : L2.St} {H : Hp} {Q : VK} {m : Nat} {sp : Sp} {gV : List V → List V} {E : XK} {tk : TA}
theorem r_callW (q : tk σ H fun zs H2 => zs.length = m ∧ sp (gV zs) H2 Q E) : tCallW m sp gV E tk σ H Q := q
end
/-- positional values first, then keywords; no defaults -/
theorem Fun.kbn {K : PySem.W.Frag} {x qual : Str} {st : Stmt} {f : Addr} {fd : FuncData} {ps ks : List Str} {n : Nat} {g : List Value → List Value → List Value} {gV : List V → List V → List V} (F : Fun K x qual st f fd)
    (h : ∀ (kV doc pm : Value) (an : Option Addr) (cdv ct : Value) (us ws : List Value), us.length = n → ws.length = ks.length → bindArgs (PySem.W.fnOf x qual (defArgs st) (defBody st) (defScope st) .none kV doc pm an cdv ct) ⟨us, ks.zip ws⟩ = pure (ps.zip (g us ws)))
    (hr : ∀ {vs : List V} {us : List Value} {zs : List V} {ws : List Value}, Vals vs us → Vals zs ws → Vals (gV vs zs) (g us ws)) : KBn K fd ps n ks g gV := by
  obtain ⟨oc, od, kV, doc, pm, an, cdv, ct, osl, rfl, lk, hcd⟩ := F.ex
  exact ⟨fun s us ws _ l1 l2 => .of_eq (h kV doc pm an cdv ct us ws l1 l2), hr⟩
end CP

set_option Elab.async false
set_option linter.all false
set_option maxRecDepth 100000
set_option maxHeartbeats 4000000
set_option autoImplicit false
/-! comprehensions whose elements are told one by one, new objects among them -/
namespace CP
open L2 PySem PyProof.Rows
/-- the heap without one object -/
def hide (D : Addr) (H : Hp) : Hp := fun b => if b = D then none else H b
theorem hide_ne {D b : Addr} {H : Hp} (h : b ≠ D) : hide D H b = H b := if_neg h
theorem hide_same {D : Addr} {H : Hp} : Same (hide D H) H := fun b o h => by
  unfold hide at h
  split at h
  · cases h
  · exact h
theorem hide_upd {D : Addr} {H : Hp} {o : HO} : hide D (upd H D o) = hide D H := funext fun b => by
  unfold hide
  by_cases e : b = D
  · rw [if_pos e, if_pos e]
  · rw [if_neg e, if_neg e, upd_ne e]
theorem hide_mono {D : Addr} {H H' : Hp} (s : Same H H') : Same (hide D H) (hide D H') := fun b o h => by
  unfold hide at h ⊢
  by_cases e : b = D
  · rw [if_pos e] at h; cases h
  · rw [if_neg e] at h; rw [if_neg e]; exact s b o h
theorem hide_none {D : Addr} {H : Hp} (h : H D = none) : hide D H = H := funext fun b => by
  unfold hide
  by_cases e : b = D
  · rw [if_pos e, e, h]
  · rw [if_neg e]
theorem pd_mono {α β : Type} {R R' : α → β → Prop} {xs : List α} {ys : List β} (h : Paired R xs ys) (m : ∀ a b, R a b → R' a b) : Paired R' xs ys := by
  induction h with
  | nil => exact .nil
  | cons h _ ih => exact .cons (m _ _ h) ih
theorem pd_len {α β : Type} {R : α → β → Prop} {xs : List α} {ys : List β} (h : Paired R xs ys) : xs.length = ys.length := by
  induction h with
  | nil => rfl
  | cons _ _ ih => rw [List.length_cons, List.length_cons, ih]
theorem pd_app {α β : Type} {R : α → β → Prop} {xs xs' : List α} {ys ys' : List β} (h : Paired R xs ys) (h' : Paired R xs' ys') : Paired R (xs ++ xs') (ys ++ ys') := by
  induction h with
  | nil => exact h'
  | cons h _ ih => exact .cons h ih
theorem pd_one {α β : Type} {R : α → β → Prop} {x : α} {y : β} (h : R x y) : Paired R [x] [y] := .cons h .nil
theorem pd_get {α β : Type} {R : α → β → Prop} {xs : List α} {ys : List β} (h : Paired R xs ys) {i : Nat} {x : α} (e : xs[i]? = some x) : ∃ y, ys[i]? = some y ∧ R x y := by
  induction h generalizing i with
  | nil => cases e
  | cons h _ ih =>
    cases i with
    | zero => cases e; exact ⟨_, rfl, h⟩
    | succ i => exact ih (i := i) e
theorem pd_get' {α β : Type} {R : α → β → Prop} {xs : List α} {ys : List β} (h : Paired R xs ys) {i : Nat} {y : β} (e : ys[i]? = some y) : ∃ x, xs[i]? = some x ∧ R x y := by
  induction h generalizing i with
  | nil => cases e
  | cons h _ ih =>
    cases i with
    | zero => cases e; exact ⟨_, rfl, h⟩
    | succ i => exact ih (i := i) e
theorem pd_eq {α : Type} {xs ys : List α} (h : Paired (fun a b => a = b) xs ys) : xs = ys := by
  induction h with
  | nil => rfl
  | cons h _ ih => rw [h, ih]
theorem pd_map {α β γ : Type} {R : α → β → Prop} {f : γ → β} {xs : List α} {ys : List γ} (h : Paired (fun a c => R a (f c)) xs ys) : Paired R xs (ys.map f) := by
  induction h with
  | nil => exact .nil
  | cons h _ ih => exact .cons h ih
theorem same_seqT {K : PySem.W.Frag} {H H' : Hp} {a : Addr} {xs : List V} (s : Same H H') (h : SqT K H a xs) : SqT K H' a xs := by
  rcases h with (z | ⟨o, z⟩) | z
  · exact .inl (.inl (s _ _ z))
  · exact .inl (.inr ⟨o, s _ _ z⟩)
  · exact .inr z
section
variable {β : Type} {K : PySem.W.Frag} {a : Addr} {xs : List V} {g : TG} {tt : TT} {te : TE} {vs : List Nat} {σ : L2.St} {H1 : Hp} {D : Addr} {Qd : Hp → Prop}
/-- the state behind i turns -/
def Acc (R : Hp → V → β → Prop) (H1 : Hp) (D : Addr) (ys : List (Option β)) (i : Nat) (H : Hp) : Prop := Same H1 H ∧ ∃ acc, H D = some (.lst acc) ∧ Paired (R (hide D H)) acc ((ys.take i).filterMap id)
theorem acc_zero {R : Hp → V → β → Prop} {ys : List (Option β)} (hD : H1 D = none) : Acc R H1 D ys 0 (upd H1 D (.lst [])) := ⟨same_new hD, [], upd_same, by rw [List.take_zero]; exact .nil⟩
theorem acc_no {R : Hp → V → β → Prop} (mono : ∀ H H' v b, Same H H' → R H v b → R H' v b) {ys : List (Option β)} {i : Nat} {H H' : Hp} (p : Acc R H1 D ys i H) (h : ys[i]? = some none) (s : Same H H') : Acc R H1 D ys (i + 1) H' := by
  obtain ⟨s1, acc, e, pr⟩ := p
  refine ⟨s1.trans s, acc, CP.Same.to s e, ?_⟩
  rw [List.take_add_one, h]
  simp only [Option.toList_some, List.filterMap_append, List.filterMap_cons, id_eq, List.filterMap_nil, List.append_nil]
  exact pd_mono pr fun v b => mono _ _ v b (hide_mono s)
theorem acc_yes {R : Hp → V → β → Prop} (mono : ∀ H H' v b, Same H H' → R H v b → R H' v b) {ys : List (Option β)} {i : Nat} {z : β} {H H' : Hp} {y : V} (hD : H1 D = none) (hz : ys.length < sizeLine) (p : Acc R H1 D ys i H) (h : ys[i]? = some (some z)) (s : Same H H') (r : R (hide D H') y z) :
    ∃ acc, H' D = some (.lst acc) ∧ acc.length < sizeLine ∧ Acc R H1 D ys (i + 1) (upd H' D (.lst (acc ++ [y]))) := by
  obtain ⟨s1, acc, e, pr⟩ := p
  refine ⟨acc, CP.Same.to s e, ?_, CP.Same.sb (s1.trans s) hD sb_upd, acc ++ [y], upd_same, ?_⟩
  · rw [pd_len pr]
    refine Nat.lt_of_le_of_lt (List.length_filterMap_le ..) ?_
    rw [List.length_take]
    omega
  · rw [List.take_add_one, h, hide_upd]
    simp only [Option.toList_some, List.filterMap_append, List.filterMap_cons, id_eq, List.filterMap_nil]
    exact pd_app (pd_mono pr fun v b => mono _ _ v b (hide_mono s)) (pd_one r)
theorem acc_end {R : Hp → V → β → Prop} (mono : ∀ H H' v b, Same H H' → R H v b → R H' v b) {ys : List (Option β)} {H : Hp} (p : Acc R H1 D ys ys.length H) : Same H1 H ∧ ∃ acc, H D = some (.lst acc) ∧ Paired (R H) acc (ys.filterMap id) := by
  obtain ⟨s1, acc, e, pr⟩ := p
  rw [List.take_length] at pr
  exact ⟨s1, acc, e, pd_mono pr fun v b => mono _ _ v b hide_same⟩
/-- one turn: what has to be shown of it -/
def Turn (g : TG) (tt : TT) (te : TE) (vs : List Nat) (σ : L2.St) (R : Hp → V → β → Prop) (D : Addr) (H : Hp) (x : V) (o : Option β) : Prop :=
  ∀ N : Hp → Prop, (∀ H', o = none → Same H H' → N H') → (∀ H' y z, o = some z → Same H H' → R (hide D H') y z → ∃ acc, H' D = some (.lst acc) ∧ acc.length < sizeLine ∧ N (upd H' D (.lst (acc ++ [y])))) →
    g x (wipe σ vs) H fun σ2 H2 => wipe σ2 vs = wipe σ vs ∧ tt σ2 H2 fun b H3 => if b = true then te σ2 H3 fun y H4 => ∃ acc, H4 D = some (.lst acc) ∧ acc.length < sizeLine ∧ N (upd H4 D (.lst (acc ++ [y]))) else N H3
theorem turn_of {R : Hp → V → β → Prop} (mono : ∀ H H' v b, Same H H' → R H v b → R H' v b) {ys : List (Option β)} (hD : H1 D = none) (hz : ys.length < sizeLine) {i : Nat} {H : Hp} {x : V} {o : Option β} (p : Acc R H1 D ys i H) (h : ys[i]? = some o) (t : Turn g tt te vs σ R D H x o) :
    g x (wipe σ vs) H fun σ2 H2 => wipe σ2 vs = wipe σ vs ∧ tt σ2 H2 fun b H3 => if b = true then te σ2 H3 fun y H4 => ∃ acc, H4 D = some (.lst acc) ∧ acc.length < sizeLine ∧ Acc R H1 D ys (i + 1) (upd H4 D (.lst (acc ++ [y]))) else Acc R H1 D ys (i + 1) H3 :=
  t _ (fun H' e s => acc_no mono p (by rw [h, e]) s) fun H' y z e s r => acc_yes mono hD hz p (by rw [h, e]) s r
/-- over a list that stands -/
theorem lc_tell (R : Hp → V → β → Prop) (ys : List (Option β)) (hD : H1 D = none) (ha : SqL K H1 a xs) (hl : xs.length = ys.length) (hz : ys.length < sizeLine) (mono : ∀ H H' v b, Same H H' → R H v b → R H' v b)
    (hs : ∀ (i : Nat) (x : V) (o : Option β) (H : Hp), xs[i]? = some x → ys[i]? = some o → Same H1 H → (∃ acc, H D = some (.lst acc)) → Turn g tt te vs σ R D H x o)
    (hd : ∀ H acc, Same H1 H → H D = some (.lst acc) → Paired (R H) acc (ys.filterMap id) → Qd H) :
    ∃ W : Nat → Nat → Hp → Prop, (∃ m, W 0 m (upd H1 D (.lst []))) ∧ ∀ i m H, W i m H →
      ((Itl K a).stop i H ∧ Qd H) ∨ ((Itl K a).go i H ∧ ∃ Nx : Hp → Prop, (∀ H', Nx H' → ∃ m', m' < m ∧ W (i + 1) m' H') ∧ ∀ x H', (Itl K a).yld i H x H' → g x (wipe σ vs) H' fun σ2 H2 => wipe σ2 vs = wipe σ vs ∧ tt σ2 H2 fun b H3 =>
        if b = true then te σ2 H3 fun y H4 => ∃ acc, H4 D = some (.lst acc) ∧ acc.length < sizeLine ∧ Nx (upd H4 D (.lst (acc ++ [y]))) else Nx H3) := by
  refine lc_list (K := K) (a := a) (xs := xs) (Acc R H1 D ys) (acc_zero hD) (fun i H _ w => L2.Same.seq w.1 ha) (fun i x H hx p => ?_) fun H p => ?_
  · have hi : i < ys.length := by rw [← hl]; exact (List.getElem?_eq_some_iff.mp hx).1
    exact turn_of mono hD hz p (List.getElem?_eq_getElem hi) (hs i x _ H hx (List.getElem?_eq_getElem hi) p.1 (p.2.imp fun _ z => z.1))
  · rw [hl] at p
    obtain ⟨s, acc, e, pr⟩ := acc_end mono p
    exact hd H acc s e pr
theorem lc_tellT (R : Hp → V → β → Prop) (ys : List (Option β)) (hD : H1 D = none) (ha : SqT K H1 a xs) (hl : xs.length = ys.length) (hz : ys.length < sizeLine) (mono : ∀ H H' v b, Same H H' → R H v b → R H' v b)
    (hs : ∀ (i : Nat) (x : V) (o : Option β) (H : Hp), xs[i]? = some x → ys[i]? = some o → Same H1 H → (∃ acc, H D = some (.lst acc)) → Turn g tt te vs σ R D H x o)
    (hd : ∀ H acc, Same H1 H → H D = some (.lst acc) → Paired (R H) acc (ys.filterMap id) → Qd H) :
    ∃ W : Nat → Nat → Hp → Prop, (∃ m, W 0 m (upd H1 D (.lst []))) ∧ ∀ i m H, W i m H →
      ((Itt K a).stop i H ∧ Qd H) ∨ ((Itt K a).go i H ∧ ∃ Nx : Hp → Prop, (∀ H', Nx H' → ∃ m', m' < m ∧ W (i + 1) m' H') ∧ ∀ x H', (Itt K a).yld i H x H' → g x (wipe σ vs) H' fun σ2 H2 => wipe σ2 vs = wipe σ vs ∧ tt σ2 H2 fun b H3 =>
        if b = true then te σ2 H3 fun y H4 => ∃ acc, H4 D = some (.lst acc) ∧ acc.length < sizeLine ∧ Nx (upd H4 D (.lst (acc ++ [y]))) else Nx H3) := by
  refine lc_tup (K := K) (a := a) (xs := xs) (Acc R H1 D ys) (acc_zero hD) (fun i H _ w => same_seqT w.1 ha) (fun i x H hx p => ?_) fun H p => ?_
  · have hi : i < ys.length := by rw [← hl]; exact (List.getElem?_eq_some_iff.mp hx).1
    exact turn_of mono hD hz p (List.getElem?_eq_getElem hi) (hs i x _ H hx (List.getElem?_eq_getElem hi) p.1 (p.2.imp fun _ z => z.1))
  · rw [hl] at p
    obtain ⟨s, acc, e, pr⟩ := acc_end mono p
    exact hd H acc s e pr
theorem lc_tellR {lo : Int} {n : Nat} (R : Hp → V → β → Prop) (ys : List (Option β)) (hD : H1 D = none) (hl : n = ys.length) (hz : ys.length < sizeLine) (mono : ∀ H H' v b, Same H H' → R H v b → R H' v b)
    (hs : ∀ (i : Nat) (o : Option β) (H : Hp), i < n → ys[i]? = some o → Same H1 H → (∃ acc, H D = some (.lst acc)) → Turn g tt te vs σ R D H (.int (lo + i)) o)
    (hd : ∀ H acc, Same H1 H → H D = some (.lst acc) → Paired (R H) acc (ys.filterMap id) → Qd H) :
    ∃ W : Nat → Nat → Hp → Prop, (∃ m, W 0 m (upd H1 D (.lst []))) ∧ ∀ i m H, W i m H →
      ((Itr lo n).stop i H ∧ Qd H) ∨ ((Itr lo n).go i H ∧ ∃ Nx : Hp → Prop, (∀ H', Nx H' → ∃ m', m' < m ∧ W (i + 1) m' H') ∧ ∀ x H', (Itr lo n).yld i H x H' → g x (wipe σ vs) H' fun σ2 H2 => wipe σ2 vs = wipe σ vs ∧ tt σ2 H2 fun b H3 =>
        if b = true then te σ2 H3 fun y H4 => ∃ acc, H4 D = some (.lst acc) ∧ acc.length < sizeLine ∧ Nx (upd H4 D (.lst (acc ++ [y]))) else Nx H3) := by
  refine lc_range (Acc R H1 D ys) (acc_zero hD) (fun i H hi p => ?_) fun H p => ?_
  · have hi' : i < ys.length := by rw [← hl]; exact hi
    exact turn_of mono hD hz p (List.getElem?_eq_getElem hi') (hs i _ H hi (List.getElem?_eq_getElem hi') p.1 (p.2.imp fun _ z => z.1))
  · rw [hl] at p
    obtain ⟨s, acc, e, pr⟩ := acc_end mono p
    exact hd H acc s e pr
/-- over a text -/
theorem lc_tellS {z : Str} (R : Hp → V → β → Prop) (ys : List (Option β)) (hD : H1 D = none) (hl : z.cps.size = ys.length) (hz : ys.length < sizeLine) (mono : ∀ H H' v b, Same H H' → R H v b → R H' v b)
    (hs : ∀ (i : Nat) (c : Nat) (o : Option β) (H : Hp), z.cps[i]? = some c → ys[i]? = some o → Same H1 H → (∃ acc, H D = some (.lst acc)) → Turn g tt te vs σ R D H (.str ⟨#[c]⟩) o)
    (hd : ∀ H acc, Same H1 H → H D = some (.lst acc) → Paired (R H) acc (ys.filterMap id) → Qd H) :
    ∃ W : Nat → Nat → Hp → Prop, (∃ m, W 0 m (upd H1 D (.lst []))) ∧ ∀ i m H, W i m H →
      ((Its z).stop i H ∧ Qd H) ∨ ((Its z).go i H ∧ ∃ Nx : Hp → Prop, (∀ H', Nx H' → ∃ m', m' < m ∧ W (i + 1) m' H') ∧ ∀ x H', (Its z).yld i H x H' → g x (wipe σ vs) H' fun σ2 H2 => wipe σ2 vs = wipe σ vs ∧ tt σ2 H2 fun b H3 =>
        if b = true then te σ2 H3 fun y H4 => ∃ acc, H4 D = some (.lst acc) ∧ acc.length < sizeLine ∧ Nx (upd H4 D (.lst (acc ++ [y]))) else Nx H3) := by
  refine ⟨fun i m H => m = ys.length - i ∧ i ≤ ys.length ∧ Acc R H1 D ys i H, ⟨ys.length, by simp, Nat.zero_le _, acc_zero hD⟩, ?_⟩
  rintro i m H ⟨rfl, hi, p⟩
  by_cases lt : i < ys.length
  · refine .inr ⟨(by rw [hl]; exact lt : i < z.cps.size), Acc R H1 D ys (i + 1), fun H' p' => ⟨ys.length - (i + 1), by omega, rfl, lt, p'⟩, fun x H' y => ?_⟩
    obtain ⟨rfl, c, hc, rfl⟩ := y
    exact turn_of mono hD hz p (List.getElem?_eq_getElem lt) (hs i c _ _ hc (List.getElem?_eq_getElem lt) p.1 (p.2.imp fun _ z => z.1))
  · have e : i = ys.length := by omega
    subst e
    obtain ⟨s, acc, e, pr⟩ := acc_end mono p
    exact .inl ⟨(by rw [hl]; exact Nat.le_refl _ : z.cps.size ≤ ys.length), hd H acc s e pr⟩
theorem lc_noneL {xs : List V} (hD : H1 D = none) (ha : SqL K H1 a xs) (hz : xs.length < sizeLine)
    (hs : ∀ (i : Nat) (x : V) (H : Hp), xs[i]? = some x → Same H1 H → Turn (β := V) g tt te vs σ (fun _ x b => x = b) D H x none) (hd : ∀ H, Same H1 H → H D = some (.lst []) → Qd H) :
    ∃ W : Nat → Nat → Hp → Prop, (∃ m, W 0 m (upd H1 D (.lst []))) ∧ ∀ i m H, W i m H →
      ((Itl K a).stop i H ∧ Qd H) ∨ ((Itl K a).go i H ∧ ∃ Nx : Hp → Prop, (∀ H', Nx H' → ∃ m', m' < m ∧ W (i + 1) m' H') ∧ ∀ x H', (Itl K a).yld i H x H' → g x (wipe σ vs) H' fun σ2 H2 => wipe σ2 vs = wipe σ vs ∧ tt σ2 H2 fun b H3 =>
        if b = true then te σ2 H3 fun y H4 => ∃ acc, H4 D = some (.lst acc) ∧ acc.length < sizeLine ∧ Nx (upd H4 D (.lst (acc ++ [y]))) else Nx H3) := by
  refine lc_tell (β := V) (fun _ x b => x = b) (xs.map fun _ => none) hD ha (by rw [List.length_map]) (by rw [List.length_map]; exact hz) (fun _ _ _ _ _ z => z) (fun i x o H hx ho s1 _ => ?_) fun H acc s1 hacc pp => ?_
  · have e : o = none := by
      rw [List.getElem?_map, hx] at ho
      exact (Option.some.inj ho).symm
    subst e
    exact hs i x H hx s1
  · have e : acc = [] := by
      rw [pd_eq pp]
      clear pp hs hz ha
      induction xs with
      | nil => rfl
      | cons _ xs ih => exact ih
    subst e
    exact hd H s1 hacc
theorem lc_valsL {xs : List V} (ys : List V) (hD : H1 D = none) (ha : SqL K H1 a xs) (hl : xs.length = ys.length) (hz : ys.length < sizeLine)
    (hs : ∀ (i : Nat) (x y : V) (H : Hp), xs[i]? = some x → ys[i]? = some y → Same H1 H → Turn (β := V) g tt te vs σ (fun _ x b => x = b) D H x (some y)) (hd : ∀ H, Same H1 H → H D = some (.lst ys) → Qd H) :
    ∃ W : Nat → Nat → Hp → Prop, (∃ m, W 0 m (upd H1 D (.lst []))) ∧ ∀ i m H, W i m H →
      ((Itl K a).stop i H ∧ Qd H) ∨ ((Itl K a).go i H ∧ ∃ Nx : Hp → Prop, (∀ H', Nx H' → ∃ m', m' < m ∧ W (i + 1) m' H') ∧ ∀ x H', (Itl K a).yld i H x H' → g x (wipe σ vs) H' fun σ2 H2 => wipe σ2 vs = wipe σ vs ∧ tt σ2 H2 fun b H3 =>
        if b = true then te σ2 H3 fun y H4 => ∃ acc, H4 D = some (.lst acc) ∧ acc.length < sizeLine ∧ Nx (upd H4 D (.lst (acc ++ [y]))) else Nx H3) := by
  refine lc_tell (β := V) (fun _ x b => x = b) (ys.map some) hD ha (by rw [List.length_map]; exact hl) (by rw [List.length_map]; exact hz) (fun _ _ _ _ _ z => z) (fun i x o H hx ho s1 _ => ?_) fun H acc s1 hacc pp => ?_
  · rw [List.getElem?_map] at ho
    cases ey : ys[i]? with
    | none => rw [ey] at ho; cases ho
    | some y =>
      rw [ey] at ho
      cases ho
      exact hs i x y H hx ey s1
  · have e : acc = ys := by
      rw [pd_eq pp, List.filterMap_map]
      exact List.filterMap_some
    subst e
    exact hd H s1 hacc
theorem lc_noneT {xs : List V} (hD : H1 D = none) (ha : SqT K H1 a xs) (hz : xs.length < sizeLine)
    (hs : ∀ (i : Nat) (x : V) (H : Hp), xs[i]? = some x → Same H1 H → Turn (β := V) g tt te vs σ (fun _ x b => x = b) D H x none) (hd : ∀ H, Same H1 H → H D = some (.lst []) → Qd H) :
    ∃ W : Nat → Nat → Hp → Prop, (∃ m, W 0 m (upd H1 D (.lst []))) ∧ ∀ i m H, W i m H →
      ((Itt K a).stop i H ∧ Qd H) ∨ ((Itt K a).go i H ∧ ∃ Nx : Hp → Prop, (∀ H', Nx H' → ∃ m', m' < m ∧ W (i + 1) m' H') ∧ ∀ x H', (Itt K a).yld i H x H' → g x (wipe σ vs) H' fun σ2 H2 => wipe σ2 vs = wipe σ vs ∧ tt σ2 H2 fun b H3 =>
        if b = true then te σ2 H3 fun y H4 => ∃ acc, H4 D = some (.lst acc) ∧ acc.length < sizeLine ∧ Nx (upd H4 D (.lst (acc ++ [y]))) else Nx H3) := by
  refine lc_tellT (β := V) (fun _ x b => x = b) (xs.map fun _ => none) hD ha (by rw [List.length_map]) (by rw [List.length_map]; exact hz) (fun _ _ _ _ _ z => z) (fun i x o H hx ho s1 _ => ?_) fun H acc s1 hacc pp => ?_
  · have e : o = none := by
      rw [List.getElem?_map, hx] at ho
      exact (Option.some.inj ho).symm
    subst e
    exact hs i x H hx s1
  · have e : acc = [] := by
      rw [pd_eq pp]
      clear pp hs hz ha
      induction xs with
      | nil => rfl
      | cons _ xs ih => exact ih
    subst e
    exact hd H s1 hacc
theorem lc_valsT {xs : List V} (ys : List V) (hD : H1 D = none) (ha : SqT K H1 a xs) (hl : xs.length = ys.length) (hz : ys.length < sizeLine)
    (hs : ∀ (i : Nat) (x y : V) (H : Hp), xs[i]? = some x → ys[i]? = some y → Same H1 H → Turn (β := V) g tt te vs σ (fun _ x b => x = b) D H x (some y)) (hd : ∀ H, Same H1 H → H D = some (.lst ys) → Qd H) :
    ∃ W : Nat → Nat → Hp → Prop, (∃ m, W 0 m (upd H1 D (.lst []))) ∧ ∀ i m H, W i m H →
      ((Itt K a).stop i H ∧ Qd H) ∨ ((Itt K a).go i H ∧ ∃ Nx : Hp → Prop, (∀ H', Nx H' → ∃ m', m' < m ∧ W (i + 1) m' H') ∧ ∀ x H', (Itt K a).yld i H x H' → g x (wipe σ vs) H' fun σ2 H2 => wipe σ2 vs = wipe σ vs ∧ tt σ2 H2 fun b H3 =>
        if b = true then te σ2 H3 fun y H4 => ∃ acc, H4 D = some (.lst acc) ∧ acc.length < sizeLine ∧ Nx (upd H4 D (.lst (acc ++ [y]))) else Nx H3) := by
  refine lc_tellT (β := V) (fun _ x b => x = b) (ys.map some) hD ha (by rw [List.length_map]; exact hl) (by rw [List.length_map]; exact hz) (fun _ _ _ _ _ z => z) (fun i x o H hx ho s1 _ => ?_) fun H acc s1 hacc pp => ?_
  · rw [List.getElem?_map] at ho
    cases ey : ys[i]? with
    | none => rw [ey] at ho; cases ho
    | some y =>
      rw [ey] at ho
      cases ho
      exact hs i x y H hx ey s1
  · have e : acc = ys := by
      rw [pd_eq pp, List.filterMap_map]
      exact List.filterMap_some
    subst e
    exact hd H s1 hacc
theorem r_yes {σ : L2.St} {H : Hp} {Q : Bool → Hp → Prop} (q : Q true H) : tYes σ H Q := q
end
end CP

set_option Elab.async false
set_option linter.all false
set_option maxRecDepth 100000
set_option maxHeartbeats 4000000
set_option autoImplicit false
/-! dicts whose keys are numbers and texts: one step at a time -/
namespace CP
open L2 PySem PyProof.Rows
section
variable {K : PySem.W.Frag} {σ : L2.St} {H : Hp} {Q : VK} {d : Addr} {kvs : List (Key × V)} {v : V} {i : Int} {z : Str} {td ty tv : TE}
theorem r_tdni (q : ty σ H fun y H1 => td σ H1 fun x H2 => ∃ a o, x = .ref a ∧ DGet H2 a y o ∧ Q (.bl (!o.isSome)) H2) : tDNotIn ty td σ H Q := q
theorem r_tdin (q : ty σ H fun y H1 => td σ H1 fun x H2 => ∃ a o, x = .ref a ∧ DGet H2 a y o ∧ Q (.bl o.isSome) H2) : tDIn ty td σ H Q := q
theorem r_tdget (q : td σ H fun x H1 => ty σ H1 fun y H2 => ∃ a v, x = .ref a ∧ DGet H2 a y (some v) ∧ Q v H2) : tDGet td ty σ H Q := q
theorem r_lookI {P : Option V → Prop} (h : H d = some (.dK kvs)) (q : P (valV kvs (Sum.inl i))) : ∃ a o, V.ref d = .ref a ∧ DGet H a (.int i) o ∧ P o := ⟨d, _, rfl, DGet.k (k := Sum.inl i) h, q⟩
theorem r_lookS {P : Option V → Prop} (h : H d = some (.dK kvs)) (q : P (valV kvs (Sum.inr z))) : ∃ a o, V.ref d = .ref a ∧ DGet H a (.str z) o ∧ P o := ⟨d, _, rfl, DGet.k (k := Sum.inr z) h, q⟩
theorem r_dgetI {P : V → Prop} (h : H d = some (.dK kvs)) (e : valV kvs (Sum.inl i) = some v) (q : P v) : ∃ a v, V.ref d = .ref a ∧ DGet H a (.int i) (some v) ∧ P v := ⟨d, v, rfl, e ▸ DGet.k (k := Sum.inl i) h, q⟩
theorem r_dgetS {P : V → Prop} (h : H d = some (.dK kvs)) (e : valV kvs (Sum.inr z) = some v) (q : P v) : ∃ a v, V.ref d = .ref a ∧ DGet H a (.str z) (some v) ∧ P v := ⟨d, v, rfl, e ▸ DGet.k (k := Sum.inr z) h, q⟩
theorem r_dget2I {P : Option V → Prop} (h : H d = some (.dK kvs)) (q : P (valV kvs (Sum.inl i))) : ∃ o, DGet H d (.int i) o ∧ P o := ⟨_, DGet.k (k := Sum.inl i) h, q⟩
theorem r_dget2S {P : Option V → Prop} (h : H d = some (.dK kvs)) (q : P (valV kvs (Sum.inr z))) : ∃ o, DGet H d (.str z) o ∧ P o := ⟨_, DGet.k (k := Sum.inr z) h, q⟩
theorem r_isD {P : Addr → Prop} (h : H d = some (.dK kvs)) (q : P d) : ∃ a, V.ref d = .ref a ∧ IsD H a ∧ P a := ⟨d, rfl, .inl ⟨_, .inl h⟩, q⟩
theorem r_dputI {N : Hp → Prop} (h : H d = some (.dK kvs)) (l : kvs.length < sizeLine) (q : ∀ H', SB d H H' → H' d = some (.dK (putK kvs (Sum.inl i) v)) → N H') : ∃ a H', V.ref d = .ref a ∧ DPut H a (.int i) v H' ∧ N H' :=
  ⟨d, _, rfl, .inl ⟨kvs, Sum.inl i, h, rfl, l, rfl⟩, q _ sb_upd upd_same⟩
theorem r_dputS {N : Hp → Prop} (h : H d = some (.dK kvs)) (l : kvs.length < sizeLine) (q : ∀ H', SB d H H' → H' d = some (.dK (putK kvs (Sum.inr z) v)) → N H') : ∃ a H', V.ref d = .ref a ∧ DPut H a (.str z) v H' ∧ N H' :=
  ⟨d, _, rfl, .inl ⟨kvs, Sum.inr z, h, rfl, l, rfl⟩, q _ sb_upd upd_same⟩
theorem r_lenD (h : H d = some (.dK kvs)) (q : Q (.int kvs.length) H) : ∃ a kvs', V.ref d = .ref a ∧ H a = some (.dK kvs') ∧ Q (.int kvs'.length) H := ⟨d, kvs, rfl, h, q⟩
end
end CP

set_option Elab.async false
set_option linter.all false
set_option maxRecDepth 100000
set_option maxHeartbeats 4000000
/-! sets of texts: made of a list, sorted -/
namespace CP
open PySem L2 PySem.Spec PyProof.Rows
def txtOf (e : Int × Value) : Str := match e.2 with | .str x _ => x | _ => Str.empty
def TxtE (w : World) (e : Int × Value) : Prop := ∃ x tk, e.2 = Value.str x tk ∧ e.1 = hashStr w x
abbrev tkd (P : Program) (w : World) := PySem.strKind P w
/-- the set of texts at a: T its members, n how many; its table can be walked -/
def SetT (w : World) (h : Heap) (a : Addr) (T : Str → Bool) (n : Nat) : Prop :=
  ∃ o es ep tb, h.get? a = some o ∧ o.ExactSet ∧ o.data = .set es ep tb ∧ (∀ e ∈ es.toList, TxtE w e) ∧ (es.toList.map txtOf).Nodup ∧ (∀ x, T x = true ↔ x ∈ es.toList.map txtOf) ∧
    es.size < scanBound ∧ tb.fits es.size = true ∧ es.size = n ∧ Ris tb.place.toList ∧ (w.params.followText "set-order" = true ∨ tb.led = true)
section
variable {P : Program} {w : World} {h h' : Heap} {a : Addr} {T : Str → Bool} {n : Nat}
theorem SetT.there (R : SetT w h a T n) (k : ∀ o, h.get? a = some o → h'.get? a = some o) : SetT w h' a T n := by
  obtain ⟨o, es, ep, tb, got, more⟩ := R
  exact ⟨o, es, ep, tb, k o got, more⟩
theorem SetT.same {T' : Str → Bool} (R : SetT w h a T n) (e : ∀ x, T' x = T x) : SetT w h a T' n := (funext e : T' = T) ▸ R
theorem txt_elems {l : List (Int × Value)} (g : ∀ e ∈ l, TxtE w e) : ElemsOf (tkd P w) l := fun e he => by
  obtain ⟨x, tk, h1, h2⟩ := g e he
  exact ⟨⟨x, by rw [h1]; exact strKind_is P w x tk, h2⟩, by rw [h1] <;> rfl⟩
theorem txt_is {e : Int × Value} (g : TxtE w e) (x : Str) : (tkd P w).is x e.2 = true ↔ txtOf e = x := by
  obtain ⟨y, tk, h1, _⟩ := g
  unfold txtOf
  rw [h1]
  show ((y == x) = true) ↔ y = x
  exact beq_iff_eq
theorem txt_mem {l : List (Int × Value)} (g : ∀ e ∈ l, TxtE w e) (x : Str) : x ∈ l.map txtOf ↔ ∃ e ∈ l, (tkd P w).is x e.2 = true := by
  rw [List.mem_map]
  exact ⟨fun ⟨e, he, q⟩ => ⟨e, he, (txt_is (g e he) x).2 q⟩, fun ⟨e, he, q⟩ => ⟨e, he, (txt_is (g e he) x).1 q⟩⟩
end
section
variable {P : Program} {w : World} {A : Around} {E : Value → Shared → Prop} {s : Shared} {a : Addr} {T : Str → Bool} {n : Nat}
theorem tail_txt {gv : Bool → Sem Unit} (hgv : ∀ (b : Bool) (t : Shared) (J : Unit → Shared → Prop), J () t → wpAny (model P w) A (gv b) J E t)
    {o : Obj} {es : Array (Int × Value)} {ep : Nat} {tb : SetTable} (got : s.heap.get? a = some o) (ex : o.ExactSet) (dat : o.data = .set es ep tb)
    {fs : Array (Int × Value)} {tc : SetTable} {T' : Str → Bool} (ent : ∀ e ∈ fs.toList, TxtE w e) (dis : (fs.toList.map txtOf).Nodup) (mem : ∀ x, T' x = true ↔ x ∈ fs.toList.map txtOf)
    (below : fs.size < scanBound) (fit : tc.fits fs.size = true) (ris : Ris tc.place.toList) (led : w.params.followText "set-order" = true ∨ tc.led = true) {dum : Bool} {R : Option Bool → Shared → Prop}
    (fin : ∀ h', Heap.SameBut a s.heap h' → SetT w h' a T' fs.size → R (some true) { s with heap := h' }) :
    wpAny (model P w) A (do
        storeSet a fs tc
        if (!dum && tc.tooFull) = true then do
            gv (relayAll tc fs (SetTable.grown fs.size)).2.2
            storeSet a (relayAll tc fs (SetTable.grown fs.size)).1 (relayAll tc fs (SetTable.grown fs.size)).2.1
            pure (some true)
          else pure (some true)) R E s := by
  refine wpAny_bind (wpAny_storeSet_of got dat ?_ (fits_of_scanBound below))
  have got1 := store_at (es' := fs) (t' := tc) got dat
  have but1 := Heap.SameBut.update s.heap a (Obj.putSet fs tc)
  split
  · have z1 := relayAll_perm tc fs (SetTable.grown fs.size)
    have z2 := relayAll_fits tc fs (SetTable.grown fs.size)
    have z3 := relayAll_ris tc fs (SetTable.grown fs.size)
    have z4 := relayAll_led tc fs (SetTable.grown fs.size)
    generalize relayAll tc fs (SetTable.grown fs.size) = W at z1 z2 z3 z4 ⊢
    obtain ⟨gs, td, gave⟩ := W
    dsimp only at z1 z2 z3 z4 ⊢
    have size : gs.size = fs.size := by rw [← Array.length_toList, z1.length_eq, Array.length_toList]
    refine wpAny_bind (hgv _ _ _ ?_)
    refine wpAny_bind (wpAny_storeSet_of got1 rfl ?_ (fits_of_scanBound (by rw [size]; exact below)))
    have got2 := store_at (es' := gs) (t' := td) got1 rfl
    refine wpAny_pure (fin _ (but1.trans (Heap.SameBut.update _ a _)) ⟨_, gs, _, td, got2, ex, rfl, fun e he => ent e (z1.mem_iff.mp he), (z1.map txtOf).nodup_iff.mpr dis, fun x => (mem x).trans (z1.map txtOf).mem_iff.symm, by rw [size]; exact below, z2, size, z3, ?_⟩)
    exact led.imp id fun y => by rw [z4]; exact y
  · exact wpAny_pure (fin _ but1 ⟨_, fs, _, tc, got1, ex, rfl, ent, dis, mem, below, fit, rfl, ris, led⟩)
theorem add_txt {x : Str} {tk : Tok} {Q : Bool → Shared → Prop} (R : SetT w s.heap a T n) (room : n + 1 < scanBound)
    (q : ∀ h', Heap.SameBut a s.heap h' → SetT w h' a (fun y => T y || decide (y = x)) (if T x = true then n else n + 1) → Q (!T x) { s with heap := h' }) :
    wpAny (model P w) A (setAddHashed a (.str x tk) ((tkd P w).hash x)) Q E s := by
  obtain ⟨o, es, ep, tb, got, ex, dat, ent, dis, mem, below, fit, num, ris, led⟩ := R
  have key : (tkd P w).is x (.str x tk) = true := strKind_is P w x tk
  have sca : (Value.str x tk).scannable = true := rfl
  have els : ElemsOf (tkd P w) es.toList := txt_elems ent
  unfold setAddHashed; unfold setAddHashedIn
  refine wpAny_holding (wpAny_bind (wpAny_setState_of got dat fit ?_))
  dsimp only
  rw [byScan_of sca below els]
  simp only [↓reduceIte]
  unfold setAddByScan
  refine wpAny_bind (wpAny_bind (wpAny_rule ?_))
  refine wpAny_bind (wpAny_setScan_of key got dat fit els ?_)
  cases fi : List.findIdx? (fun e => (tkd P w).is x e.2) es.toList with
  | some j =>
    dsimp only
    obtain ⟨hj, pj, _⟩ := List.findIdx?_eq_some_iff_getElem.mp fi
    have yes : T x = true := (mem x).2 ((txt_mem (P := P) (w := w) ent x).2 ⟨es.toList[j], List.getElem_mem hj, pj⟩)
    have r := q s.heap (Heap.SameBut.refl a s.heap) ⟨o, es, ep, tb, got, ex, dat, ent, dis, fun y => by
      rw [Bool.or_eq_true, decide_eq_true_eq, ← mem y]
      exact ⟨fun z => z.elim id (fun e => e ▸ yes), .inl⟩, below, fit, by rw [if_pos yes]; exact num, ris, led⟩
    rw [yes] at r
    exact wpAny_pure (wpAny_pure r)
  | none =>
    dsimp only
    have absent : x ∉ es.toList.map txtOf := fun z => by
      obtain ⟨e, he, y⟩ := (txt_mem (P := P) (w := w) ent x).1 z
      have c := List.findIdx?_eq_none_iff.mp fi e he
      rw [y] at c
      cases c
    have no : T x = false := Bool.eq_false_iff.mpr fun z => absent ((mem x).1 z)
    have gw : ∀ (b : Bool) {t : Shared} {J : Unit → Shared → Prop}, J () t → wpAny (model P w) A (match b with | true => rule "set.scan.the-table-gave-way" | false => pure ()) J E t :=
      fun b t J j => by cases b <;> first | exact wpAny_pure j | exact wpAny_rule j
    have z1 := layNew_perm tb es ((tkd P w).hash x) (.str x tk)
    have z2 := layNew_fits tb es ((tkd P w).hash x) (.str x tk)
    have z3 := layNew_ris tb es ((tkd P w).hash x) (.str x tk) ris
    have z4 := layNew_led tb es ((tkd P w).hash x) (.str x tk)
    generalize layNew tb es ((tkd P w).hash x) (.str x tk) = W at z1 z2 z3 z4 ⊢
    obtain ⟨fs, tc, dum, gave⟩ := W
    dsimp only at z1 z2 z3 z4 ⊢
    rw [Array.toList_push] at z1
    have pc : fs.toList.Perm (((tkd P w).hash x, Value.str x tk) :: es.toList) := z1.trans (List.perm_append_singleton _ _)
    have pk : (fs.toList.map txtOf).Perm (x :: es.toList.map txtOf) := pc.map txtOf
    have ent1 : ∀ e ∈ fs.toList, TxtE w e := fun e he => (List.mem_cons.mp (pc.mem_iff.mp he)).elim (fun z => z ▸ ⟨x, tk, rfl, rfl⟩) (ent e)
    have dis1 : (fs.toList.map txtOf).Nodup := pk.nodup_iff.mpr (List.nodup_cons.mpr ⟨absent, dis⟩)
    have mem1 : ∀ y, (T y || decide (y = x)) = true ↔ y ∈ fs.toList.map txtOf := fun y => by
      rw [Bool.or_eq_true, decide_eq_true_eq, mem y, pk.mem_iff, List.mem_cons]
      exact Or.comm
    have size : fs.size = n + 1 := by rw [← Array.length_toList, pc.length_eq, List.length_cons, Array.length_toList, num]
    have below1 : fs.size < scanBound := by rw [size]; exact room
    have led1 : w.params.followText "set-order" = true ∨ tc.led = true := led.imp id fun z => by rw [z4]; exact z
    have fin : ∀ h', Heap.SameBut a s.heap h' → SetT w h' a (fun y => T y || decide (y = x)) fs.size → Q true { s with heap := h' } := fun h' sb r => by
      have j := q h' sb
      rw [no] at j
      rw [size] at r
      exact j r
    refine wpAny_bind (gw _ ?_)
    split
    · refine wpAny_bind ?_
      rw [hashByValue_scannable 8 sca]
      refine wpAny_pure (tail_txt ?_ got ex dat ent1 dis1 mem1 below1 ?_ ?_ ?_ ?_)
      · intro b t J j; cases b <;> first | exact wpAny_pure j | exact wpAny_rule j
      · first | (split <;> first | exact z2 | exact SetTable.fits_plain_off z2) | exact z2
      · first | (split <;> exact z3) | exact z3
      · first | (split <;> exact led1) | exact led1
      · intro h' sb r; dsimp only; exact wpAny_pure (fin h' sb r)
    · refine wpAny_bind (wpAny_pure ?_)
      simp only [↓reduceIte]
      refine tail_txt ?_ got ex dat ent1 dis1 mem1 below1 z2 z3 led1 ?_
      · intro b t J j; cases b <;> first | exact wpAny_pure j | exact wpAny_rule j
      · intro h' sb r; dsimp only; exact wpAny_pure (fin h' sb r)
theorem setT_new {h : Heap} {xs : List Str} (got : h.get? a = some (set0 w)) : SetT w h a (fun y => decide (y ∈ xs.take 0)) 0 :=
  ⟨_, #[], 0, _, got, ⟨rfl, rfl, rfl⟩, rfl, (fun e he => by simp at he), (by simp), (fun k => by simp), (by decide), (by rfl), rfl, List.Pairwise.nil, by
    show _ ∨ (!w.params.followText "set-order") = true
    cases w.params.followText "set-order"
    · exact .inr rfl
    · exact .inl rfl⟩
theorem update_txts {I : Addr} {fp wr : List Addr} {G : Array GenState → Array GenState → Prop} {n : Nat} {Pv : Nat → Value → Prop} {St : Nat → Shared → Prop} {R : Result → Shared → Prop}
    (W : WalksS P w A.in1 I fp wr G n Pv St) (D : Addr) (out : D ∉ fp) (xs : List Str) (len : n = xs.length) (below : xs.length + 1 < scanBound) (val : ∀ i v, Pv i v → ∃ x t, xs[i]? = some x ∧ v = .str x t) :
    ∀ (k i : Nat) (s : Shared), n - i = k → i ≤ n → St i s → (∃ c, c ≤ i ∧ SetT w s.heap D (fun y => decide (y ∈ xs.take i)) c) →
      (∀ s' c, Moved (D :: wr) G s s' → c ≤ n → SetT w s'.heap D (fun y => decide (y ∈ xs)) c → R (.ok (.ret .none)) s') →
      codeAny (model P w) A (.builtin "set.update.loop" ⟨[.ref D, .ref I], []⟩) R s := by
  have notw : D ∉ wr := fun z => out (W.sub _ z)
  have sub : ∀ b ∈ wr, b ∈ D :: wr := fun b hb => List.mem_cons_of_mem _ hb
  intro k
  induction k with
  | zero =>
    intro i s hk hi st ⟨c, hc, hS⟩ q
    obtain rfl : i = n := by omega
    refine codeAny_builtin F.entry_set_update_loop ?_
    rw [Around.under_plainId F.plain_set_update_loop _]
    show wpAny _ A.in1 (pyNext (.ref I) >>= _) _ _ s
    refine wpAny_bind (W.done s _ _ st fun t moved => ?_)
    show wpAny _ A.in1 (ret Value.none) _ _ t
    rw [List.take_of_length_le (by omega : xs.length ≤ i)] at hS
    exact wpAny_pure (q t c (moved.mono sub) hc (hS.there fun o e => moved.heap D o notw e))
  | succ k ih =>
    intro i s hk hi st ⟨c, hc, hS⟩ q
    have lt : i < n := by omega
    refine codeAny_builtin F.entry_set_update_loop ?_
    rw [Around.under_plainId F.plain_set_update_loop _]
    show wpAny _ A.in1 (pyNext (.ref I) >>= _) _ _ s
    refine wpAny_bind (W.item i s _ _ lt st fun v t hP st' moved => ?_)
    obtain ⟨x, tk, hx, rfl⟩ := val i v hP
    have hS' : SetT w t.heap D (fun y => decide (y ∈ xs.take i)) c := hS.there fun o e => moved.heap D o notw e
    show wpAny _ A.in1 (holding [Value.str x tk] (setAdd D (.str x tk)) >>= _) _ _ t
    refine wpAny_bind (wpAny_holding ?_)
    unfold setAdd
    refine wpAny_holding (wpAny_bind ((tkd P w).pyHash (k := x) (strKind_is _ _ _ _) ?_))
    refine add_txt (s := { t with toks := t.toks + 1 }) hS' (by omega) fun h' sb r => ?_
    have r3 : SetT w h' D (fun y => decide (y ∈ xs.take (i + 1))) (if decide (x ∈ xs.take i) = true then c else c + 1) := r.same fun y => by
      rw [List.take_add_one, hx]
      simp [List.mem_append]
    have c3 : (if decide (x ∈ xs.take i) = true then c else c + 1) ≤ i + 1 := by split <;> omega
    refine wpAny_pure ⟨plainId_quiet F.plain_set_update_loop _, ih (i + 1) _ (by omega) lt (W.frame _ t _ _ st' (Nat.le_succ _) fun b hb o e => ?_) ⟨_, c3, r3⟩ fun t2 c2 m2 hc2 hS2 => ?_⟩
    · rw [sb.2 b (fun z : b = D => out (by rw [← z]; exact hb))]; exact e
    · refine q t2 c2 (Moved.trans W.gtrans ((moved.mono sub).then_heap (Nat.le_succ _) fun b o hb e => ?_) m2) hc2 hS2
      rw [sb.2 b (fun z : b = D => hb (by rw [z]; exact List.mem_cons_self))]; exact e
theorem loop_txts {l : Addr} {items : Array Value} {xs : List Str} (cool : A.handled = none) (hl : s.heap.IsList l items) (hi : StrsAre items.toList xs) (below : xs.length + 1 < scanBound) :
    ∀ (A' : Around) (R : Result → Shared → Prop) (s1 : Shared), A'.handled = A.handled → s1.heap = (s.heap.push (set0 w)).push (lit0 l) →
      (∀ s', Moved [s.heap.objs.size, s.heap.objs.size + 1] (fun a b => b = a) s1 s' → (∃ c, c ≤ xs.length ∧ SetT w s'.heap s.heap.objs.size (fun y => decide (y ∈ xs)) c) → R (.ok (.ret .none)) s') →
      codeAny (model P w) A' (.builtin "set.update.loop" ⟨[.ref s.heap.objs.size, .ref (s.heap.objs.size + 1)], []⟩) R s1 := by
  intro A' R s1 hA e1 k
  have size : items.size = xs.length := by
    have q := StrsAre.length hi
    rwa [Array.length_toList] at q
  have low : l < s.heap.objs.size := Heap.lt_size hl.choose_spec.1
  have z1 : (s.heap.push (set0 w)).objs.size = s.heap.objs.size + 1 := Heap.size_push ..
  have g0 : s1.heap.get? s.heap.objs.size = some (set0 w) := e1 ▸ Heap.get?_push_of_some _ (Heap.get?_push_size _ rfl)
  have gI : s1.heap.get? (s.heap.objs.size + 1) = some (lit0 l) := by
    have q := Heap.get?_push_size (o := lit0 l) (s.heap.push (set0 w)) rfl
    rw [z1] at q
    exact e1 ▸ q
  have gl : s1.heap.IsList l items := e1 ▸ (hl.push _).push _
  have W := (Walks.list (prog := P) (w := w) (A := A'.in1) (by simp [hA, cool]) (s.heap.objs.size + 1) l (Nat.ne_of_lt (Nat.lt_succ_of_lt low)) items).toS
  refine update_txts W s.heap.objs.size ?_ xs size below ?_ (items.size - 0) 0 s1 rfl (Nat.zero_le _) ⟨⟨_, gI, rfl, rfl⟩, gl⟩ ⟨0, Nat.le_refl 0, setT_new g0⟩ fun s' c hm hc hS => k s' hm ⟨c, by omega, hS⟩
  · intro z
    rcases List.mem_cons.mp z with z | z
    · exact absurd z (Nat.ne_of_lt (Nat.lt_succ_self _))
    · exact absurd (List.mem_singleton.mp z) (Nat.ne_of_gt low)
  · intro i v hv
    have lt : i < xs.length := by rw [← size]; exact (Array.getElem?_eq_some_iff.mp hv).1
    obtain ⟨t, e⟩ := SS.strs_at hi i v (by rw [Array.getElem?_toList]; exact hv)
    refine ⟨xs[i], t, List.getElem?_eq_getElem lt, ?_⟩
    rw [e, List.getD_eq_getElem?_getD, List.getElem?_eq_getElem lt]
    rfl
theorem sort_txts {n : Nat} {Q : Value → Shared → Prop} (R : SetT w s.heap a T n) (cool : A.handled = none)
    (q : ∀ t p (out : Array Value) (c : Nat) (ys : List Str), (∀ b o, s.heap.get? b = some o → t.heap.get? b = some o) → t.gens = s.gens → t.os = s.os → s.heap.objs.size ≤ p → t.heap.get? p = some (seqObj "list" out c) →
      StrsAre out.toList ys → sortedS ys = true → ys.Nodup → (∀ x, x ∈ ys ↔ T x = true) → ys.length = n → Q (.ref p) t) : wpAny (model P w) A (call (.builtin "sorted") [.ref a]) Q E s := by
  obtain ⟨o, es, ep, tb, got, ex, dat, ent, dis, mem, below, fit, num, ris, led⟩ := R
  refine Calls.call_function_entry kind_sorted plain_sorted entry_sorted (args_sorted1 _) ?_
  unfold Builtin.«sorted»
  refine wpAny_bind (m := checkCount "sorted" 1 1 _) (wpAny_pure (wpAny_bind ?_))
  refine collect_set (A := A.in1) cool ⟨o, got, ex.1, dat⟩ fit below ris led fun t vals keep big gens os perm => ?_
  have many : vals.length = n := by rw [perm.length_eq, List.length_map, Array.length_toList]; exact num
  have small : vals.length ≤ sizeLine := by
    rw [perm.length_eq, List.length_map, Array.length_toList]
    exact fits_of_scanBound below
  have txs : StrsAre vals (vals.map PyProof.Rows.strOf) := strsAre_map vals fun v hv => by
    obtain ⟨e, he, z⟩ := List.mem_map.mp (perm.mem_iff.mp hv)
    obtain ⟨x, tk, h1, _⟩ := ent e he
    exact ⟨x, tk, by rw [← z]; exact h1⟩
  have perm2 := perm.map PyProof.Rows.strOf
  rw [List.map_map] at perm2
  have et : es.toList.map (PyProof.Rows.strOf ∘ fun e => e.2) = es.toList.map txtOf := List.map_congr_left fun e he => by
    obtain ⟨x, tk, h1, _⟩ := ent e he
    show PyProof.Rows.strOf e.2 = txtOf e
    unfold txtOf
    rw [h1]
    rfl
  rw [et] at perm2
  refine wpAny_bind (wpAny_newList (wpAny_bind (wpAny_holding ?_)) small)
  have got2 : (t.heap.push (seqObj "list" vals.toArray 0)).get? t.heap.objs.size = some (seqObj "list" vals.toArray 0) := Heap.get?_push_size _ rfl
  refine wpAny_call_entry slot_list_sort ⟨_, got2, rfl⟩ entry_list_sort ?_ (args_list_sort _)
  refine list_sort_treeKAny strKind_oneLt got2 txs.keysOf (fun v1 v2 rest e => keyKind_strs (by rw [← e]; exact txs)) small fun st' hp hs => ⟨_, rfl, wpAny_pure ⟨_, rfl, ?_⟩⟩
  obtain ⟨ys, k1, k2, k3⟩ := sorted_out_str txs hp hs
  obtain ⟨c, got3⟩ := sortedHeap_at (vs := vals) (out := (arrOf st').map (·.2)) got2
  have pn := k2.trans perm2
  refine q _ t.heap.objs.size _ c ys (fun b u z => ?_) gens os big got3 k1 k3 (pn.nodup_iff.mpr dis) (fun x => pn.mem_iff.trans (mem x).symm) (by rw [pn.length_eq, List.length_map, Array.length_toList]; exact num)
  have z1 := keep b u z
  have z2 := Heap.lt_size z1
  show (sortedHeap (t.heap.push (seqObj "list" vals.toArray 0)) t.heap.objs.size vals ((arrOf st').map (·.2))).get? b = some u
  rw [sortedHeap_old (Nat.ne_of_lt z2) (by rw [size_push']; exact Nat.lt_succ_of_lt z2)]
  exact Heap.get?_push_of_some _ z1
end
/-- the set object -/
def SetTO (w : World) (a : Addr) (T : Str → Bool) (n : Nat) : HO := .ext fun h => SetT w h a T n
theorem setT_ok {w : World} {P : Program} {H : Hp} {h : Heap} {a : Addr} {T : Str → Bool} {n : Nat} (R : SetT w h a T n) : ObjOk P w H h a (SetTO w a T n) :=
  ⟨R, R.imp fun o z => by obtain ⟨_, _, _, g, _⟩ := z; exact g, fun h1 h2 p k => SetT.there p k⟩
section
variable {X : Cx}
def rSetT (K : PySem.W.Frag) (w : World) : List V → Hp → VK → Prop := fun xs H Q => ∃ (l : Addr) (ys : List Str), xs = [.ref l] ∧ SqL K H l (ys.map V.str) ∧ ys.length < 4000 ∧
  ∀ p c, H p = none → c ≤ ys.length → Q (.ref p) (upd H p (SetTO w p (fun y => decide (y ∈ ys)) c))
theorem cr_setT (cool : X.calm = true) : CallR X (.type "set") (rSetT X.K X.w) := by
  intro pins s σ H xs us Q I r h
  obtain ⟨l, ys, rfl, hl, few, q⟩ := h
  obtain ⟨u, rfl, ru⟩ := vals1 r
  cases (show u = Value.ref l from ru)
  obtain ⟨its, rv, pl, hz⟩ := I.list hl
  have hi : StrsAre its.toArray.toList ys := by simpa using rv.strs
  refine set_of_list (P := X.prog) (w := X.w) (Fin := fun h => ∃ c, c ≤ ys.length ∧ SetT X.w h s.heap.objs.size (fun y => decide (y ∈ ys)) c) pl.isList (loop_txts (I.ok.hd cool) pl.isList hi (by unfold scanBound; omega)) fun h' tk hF hk => ?_
  obtain ⟨c, hc', R⟩ := hF
  have fr := I.hok.fresh (Nat.le_refl s.heap.objs.size)
  exact ⟨.ref s.heap.objs.size, _, I.laid (t' := tk) hk (Nat.le_refl _) (setT_ok R), rfl, q _ _ fr hc'⟩
def rSortT (w : World) : List V → Hp → VK → Prop := fun vs H Q => ∃ (a : Addr) (T : Str → Bool) (n : Nat), vs = [V.ref a] ∧ H a = some (SetTO w a T n) ∧ n ≤ 4000 ∧
  ∀ (ys : List Str) (p : Addr), sortedS ys = true → ys.Nodup → (∀ x, x ∈ ys ↔ T x = true) → H p = none → Q (.ref p) (upd H p (.lst (ys.map V.str)))
theorem cr_sortT (cool : X.calm = true) : CallR X (.builtin "sorted") (rSortT X.w) := by
  intro pins s σ H vs us Q I r h
  obtain ⟨a, T, n, rfl, ha, few, q⟩ := h
  rw [Vals.ref1 r]
  refine sort_txts (I.hok a _ ha).1 (I.ok.hd cool) fun t p out c ys keep gens os big got txs up dis mem many => ?_
  have free : H p = none := I.hok.fresh big
  have size : (ys.map V.str).length ≤ sizeLine := by rw [List.length_map, many, sizeLine_eq]; omega
  obtain ⟨th, tg, td, tt, to⟩ := t
  cases (show to = s.os from os)
  have keep' : ∀ b o, s.heap.get? b = some o → th.get? b = some o := keep
  have J := I.call (H' := upd H p (.lst (ys.map V.str))) (h' := th) (g' := tg) (d' := td) (t' := tt) (ch := []) (Un.laid keep' big free) (I.hok.laid keep' big ⟨size, out.toList, c, vals_of_strs txs, got⟩) (by rw [show tg = s.gens from gens]; exact I.bare) (fun _ z => nomatch z)
  exact ⟨.ref p, _, J, rfl, q ys p up dis mem free⟩
end
/-- sorted(set(xs)), xs a list of texts -/
theorem r_sortSetT {K : PySem.W.Frag} {w : World} {σ : L2.St} {H : Hp} {Q : VK} {l : Addr} {xs : List Str} (hl : SqL K H l (xs.map V.str)) (hn : xs.length < 4000)
    (k : ∀ (ys : List Str) (p : Addr) (H' : Hp), sortedS ys = true → ys.Nodup → (∀ x, x ∈ ys ↔ x ∈ xs) → Same H H' → H p = none → H' p = some (.lst (ys.map V.str)) → Q (.ref p) H') :
    rSetT K w [.ref l] H fun x H1 => tNil σ H1 fun zs H2 => rSortT w (x :: zs) H2 Q := by
  refine ⟨l, xs, rfl, hl, hn, fun p c hp hc => ?_⟩
  refine r_nil ⟨p, _, c, rfl, upd_same, by omega, fun ys p2 hs hd hm h2 => ?_⟩
  have h3 : H p2 = none := by
    by_cases e : p2 = p
    · rw [e, upd_same] at h2; cases h2
    · rwa [upd_ne e] at h2
  exact k ys p2 _ hs hd (fun z => by rw [hm]; simp) ((same_new hp).trans (same_new h2)) h3 upd_same
end CP

set_option Elab.async false
set_option linter.all false
set_option maxRecDepth 100000
set_option maxHeartbeats 4000000
set_option autoImplicit false
/-! == and != of equal data of any shape: lists, tuples, dicts -/
namespace CP
open PySem L2 PySem.Spec PyProof.Rows PySem.SeqAt
open MeetsSeq3 (plain_eq_loop entry_eq_loop)
section
variable {prog : Program} {w : World}
/-- != of two tuples whose items are equal -/
theorem tup_ne_same (l b : Addr) (us vs : Array Value) (m m2 : Nat) (dd dd2 : Option Addr) (sl sl2 : Array (Option Value)) (sz : us.size = vs.size) :
    MeetsIn prog w (Builtin.«tuple.__ne__» ⟨[.ref l, .ref b], []⟩)
      (fun A R s => s.heap.get? l = some { cls := .type "tuple", dict := dd, data := .seq us m, slots := sl } ∧ s.heap.get? b = some { cls := .type "tuple", dict := dd2, data := .seq vs m2, slots := sl2 } ∧
        (∀ j (h1 : j < us.size) (h2 : j < vs.size), EqP prog w A.in1 s us[j] vs[j] true) ∧ R (.ok (.ret (.bool false))) s) := by
  intro A R s h
  obtain ⟨hp, g, d, tk, os⟩ := s
  obtain ⟨hl, hb, he, h⟩ := h
  have f2 := AutoSeq1.sub_tuple_tuple
  have zl : (us.toList.zip vs.toList).length = us.size := by simp [sz]
  wp_walk using wpAny_loadPart' hl, wpAny_loadPart' hb, wpAny_forIn_list _ (fun rest b s' => b.1 = none ∧ s' = ⟨hp, g, d, tk, os⟩ ∧ ∃ i, rest = (us.toList.zip vs.toList).drop i) _
  case turn =>
    rintro ⟨y, x⟩ rest c s' ⟨hc, rfl, i, hz⟩
    have lt : i < (us.toList.zip vs.toList).length := by
      rcases Nat.lt_or_ge i (us.toList.zip vs.toList).length with k | k
      · exact k
      · rw [List.drop_of_length_le k] at hz; cases hz
    have l1 : i < us.size := zl ▸ lt
    have l2 : i < vs.size := sz ▸ l1
    rw [List.drop_eq_getElem_cons lt] at hz
    injection hz with hyx more
    have ey : y = us[i] := by simpa using congrArg Prod.fst hyx
    have ex : x = vs[i] := by simpa using congrArg Prod.snd hyx
    subst ey ex
    refine wpAny_bind (he i l1 l2 _ _ ?_)
    wp_walk
    exact ⟨rfl, rfl, i + 1, more⟩
  case fin =>
    rintro ⟨b1, b2⟩ s' ⟨hc, rfl, i, hz⟩
    simp only at hc
    subst hc
    wp_walk
    simpa [Builtin.Tuple.tupleCompareSizes, bne, sz] using h
  case h =>
    exact ⟨rfl, rfl, 0, rfl⟩
theorem rc_tup_ne {A : Around} {s : Shared} {l b : Addr} {us vs : Array Value} (hl : s.heap.IsTuple l us) (hb : s.heap.IsTuple b vs) (sz : us.size = vs.size) (hu : A.units < cLine)
    (he : ∀ j (h1 : j < us.size) (h2 : j < vs.size), EqP prog w A.in1 s us[j] vs[j] true) (E Q : Value → Shared → Prop) (h : Q (.bool false) s) : wpAny (model prog w) A (richCompare .NotEq (.ref l) (.ref b)) Q E s := by
  obtain ⟨⟨c1, d1, x1, s1⟩, o1, e1, m1, z1⟩ := id hl
  obtain ⟨⟨c2, d2, x2, s2⟩, o2, e2, m2, z2⟩ := id hb
  simp only at e1 z1 e2 z2
  subst e1 z1 e2 z2
  exact wpAny_richCompare_same_room (op := .NotEq) ⟨_, o1, rfl⟩ ⟨_, o2, rfl⟩ F.slot_tuple_ne (call_meetsIn F.slot_tuple_ne ⟨_, o1, rfl⟩ F.entry_tuple_ne (F.args_tuple_ne_2 _ _) (tup_ne_same l b us vs m1 m2 d1 d2 s1 s2 sz)
    ⟨o1, o2, he, show Value.bool false ≠ Value.notImplemented ∧ Q (.bool false) s from ⟨(fun x => nomatch x), h⟩⟩) hu
/-- the loop of two lists whose items are equal -/
theorem lst_ne_loop (l b : Addr) (us vs : Array Value) (m m2 : Nat) (dd dd2 : Option Addr) (sl sl2 : Array (Option Value)) (sz : us.size = vs.size) :
    ∀ k i : Nat, us.size - i = k → MeetsIn prog w (Builtin.«list.__eq__.loop» ⟨[.ref l, .ref b, rawInt i, rawInt 3], []⟩)
      (fun A R s => s.heap.get? l = some { cls := .type "list", dict := dd, data := .seq us m, slots := sl } ∧ s.heap.get? b = some { cls := .type "list", dict := dd2, data := .seq vs m2, slots := sl2 } ∧
        (∀ j (h1 : j < us.size) (h2 : j < vs.size), EqP prog w A.in1 s us[j] vs[j] true) ∧ R (.ok (.ret (.bool false))) s)
  | 0, i, hk => by
    intro A R s h
    obtain ⟨hp, g, d, tk, os⟩ := s
    obtain ⟨hl, hb, he, h⟩ := h
    wp_walk using wpAny_loadPart' hl, wpAny_loadPart' hb
    have q1 : us[((i : Nat) : Int).toNat]? = none := by simp; omega
    have q2 : vs[((i : Nat) : Int).toNat]? = none := by simp; omega
    rw [q1, q2]
    wp_walk using wpAny_loadPart' hl, wpAny_loadPart' hb
    show R (.ok (.ret (.bool (us.size != vs.size)))) _
    rw [sz]
    simpa using h
  | k + 1, i, hk => by
    intro A R s h
    obtain ⟨hp, g, d, tk, os⟩ := s
    obtain ⟨hl, hb, he, h⟩ := h
    wp_walk using wpAny_loadPart' hl, wpAny_loadPart' hb
    have l1 : i < us.size := by omega
    have l2 : i < vs.size := by omega
    have q1 : us[((i : Nat) : Int).toNat]? = some us[i] := by simp [l1]
    have q2 : vs[((i : Nat) : Int).toNat]? = some vs[i] := by simp [l2]
    have q3 : ((i : Int) + 1) = ((i + 1 : Nat) : Int) := by push_cast; rfl
    rw [q1, q2]
    refine wpAny_bind (he i l1 l2 _ _ ?_)
    wp_walk
    rw [q3]
    exact ⟨plainId_quiet plain_eq_loop _, codeAny_builtin entry_eq_loop (by
      rw [Around.under_plainId plain_eq_loop _]
      exact lst_ne_loop l b us vs m m2 dd dd2 sl sl2 sz k (i + 1) (by omega) A R _ ⟨hl, hb, he, h⟩)⟩
theorem lst_ne_same (l b : Addr) (us vs : Array Value) (m m2 : Nat) (dd dd2 : Option Addr) (sl sl2 : Array (Option Value)) (sz : us.size = vs.size) :
    MeetsIn prog w (Builtin.«list.__ne__» ⟨[.ref l, .ref b], []⟩)
      (fun A R s => s.heap.get? l = some { cls := .type "list", dict := dd, data := .seq us m, slots := sl } ∧ s.heap.get? b = some { cls := .type "list", dict := dd2, data := .seq vs m2, slots := sl2 } ∧
        (∀ j (h1 : j < us.size) (h2 : j < vs.size), EqP prog w A.in1 s us[j] vs[j] true) ∧ R (.ok (.ret (.bool false))) s) := by
  intro A R s h
  obtain ⟨hp, g, d, tk, os⟩ := s
  obtain ⟨hl, hb, he, h⟩ := h
  have f3 := AutoSeq1.sub_list_list
  have hne : ¬ (us.size != vs.size) = true := by simp [sz]
  wp_walk using wpAny_loadPart' hl, wpAny_loadPart' hb
  exact ⟨plainId_quiet plain_eq_loop _, codeAny_builtin entry_eq_loop (by
    rw [Around.under_plainId plain_eq_loop _]
    exact lst_ne_loop l b us vs m m2 dd dd2 sl sl2 sz _ 0 rfl A R _ ⟨hl, hb, he, h⟩)⟩
theorem rc_lst_ne {A : Around} {s : Shared} {l b : Addr} {us vs : Array Value} (hl : s.heap.IsList l us) (hb : s.heap.IsList b vs) (sz : us.size = vs.size) (hu : A.units < cLine)
    (he : ∀ j (h1 : j < us.size) (h2 : j < vs.size), EqP prog w A.in1 s us[j] vs[j] true) (E Q : Value → Shared → Prop) (h : Q (.bool false) s) : wpAny (model prog w) A (richCompare .NotEq (.ref l) (.ref b)) Q E s := by
  obtain ⟨⟨c1, d1, x1, s1⟩, o1, e1, m1, z1⟩ := id hl
  obtain ⟨⟨c2, d2, x2, s2⟩, o2, e2, m2, z2⟩ := id hb
  simp only at e1 z1 e2 z2
  subst e1 z1 e2 z2
  exact wpAny_richCompare_same_room (op := .NotEq) ⟨_, o1, rfl⟩ ⟨_, o2, rfl⟩ F.slot_list_ne (call_meetsIn F.slot_list_ne ⟨_, o1, rfl⟩ F.entry_list_ne (F.args_list_ne_2 _ _) (lst_ne_same l b us vs m1 m2 d1 d2 s1 s2 sz)
    ⟨o1, o2, he, show Value.bool false ≠ Value.notImplemented ∧ Q (.bool false) s from ⟨(fun x => nomatch x), h⟩⟩) hu
theorem rc_tup_eq {A : Around} {s : Shared} {l b : Addr} {us vs : Array Value} (hl : s.heap.IsTuple l us) (hb : s.heap.IsTuple b vs) (sz : us.size = vs.size) (hu : A.units < cLine)
    (he : ∀ j (h1 : j < us.size) (h2 : j < vs.size), EqP prog w A.in1 s us[j] vs[j] true) (E Q : Value → Shared → Prop) (h : Q (.bool true) s) : wpAny (model prog w) A (richCompare .Eq (.ref l) (.ref b)) Q E s :=
  GQ.rc_tupG sz hu (fun _ t => t = s) hl hb (fun i h1 h2 t e => by
    subst e
    exact he i h1 h2 E _ ⟨rfl, rfl⟩) (fun t e => by subst e; exact h) rfl
end
/-! equal values: of nesting below n -/
/-- two lists, two tuples of equal items; two dicts of the same keys whose values are equal -/
def SqR (K : PySem.W.Frag) (H : Hp) (E : V → V → Prop) (x y : V) : Prop :=
  (∃ a b xs ys, x = .ref a ∧ y = .ref b ∧ SqL K H a xs ∧ SqL K H b ys ∧ Paired E xs ys) ∨ (∃ a b xs ys, x = .ref a ∧ y = .ref b ∧ SqT K H a xs ∧ SqT K H b ys ∧ Paired E xs ys) ∨
    ∃ a b ks ls, x = .ref a ∧ y = .ref b ∧ H a = some (.dK ks) ∧ H b = some (.dK ls) ∧ ks.length = ls.length ∧ ∀ p ∈ ks, ∃ u, valV ls p.1 = some u ∧ E p.2 u
def SqV (K : PySem.W.Frag) (H : Hp) : Nat → V → V → Prop
  | 0 => fun _ _ => False
  | n + 1 => fun x y => (x = y ∧ flatB x = true) ∨ (∃ a, x = .ref a ∧ y = .ref a) ∨ SqR K H (SqV K H n) x y
section
variable {X : Cx} {pins : List (Addr × Obj)} {σ : L2.St} {H : Hp} {s : Shared}
theorem sqR_eq (I : Inv X pins σ H s) {A : Around} {F : V → V → Prop} (hu : A.units < cLine) (ih : ∀ x y v u, F x y → RelV x v → RelV y u → EqP X.prog X.w A.in1 s v u true) {x y : V} {v u : Value} (h : SqR X.K H F x y) (rx : RelV x v) (ry : RelV y u)
    (E Q : Value → Shared → Prop) (q : Q (.bool true) s) : wpAny (model X.prog X.w) A (richCompare .Eq v u) Q E s := by
  rcases h with h | ⟨a, b, xs, ys, rfl, rfl, ha, hb, hp⟩ | h
  · exact eqR_run I hu ih (.inl h) rx ry E Q q
  · cases (show v = Value.ref a from rx)
    cases (show u = Value.ref b from ry)
    obtain ⟨us, r1, p1, _⟩ := I.tuple ha
    obtain ⟨ws, r2, p2, _⟩ := I.tuple hb
    have sz : us.toArray.size = ws.toArray.size := by
      rw [List.size_toArray, List.size_toArray, ← r1.length, ← r2.length]
      exact Paired.length hp
    exact rc_tup_eq p1 p2 sz hu (fun j h1 h2 => by simpa using items_run ih hp r1 r2 j (by simpa using h1) (by simpa using h2)) E Q q
  · exact eqR_run I hu ih (.inr h) rx ry E Q q
theorem sqV_eq (I : Inv X pins σ H s) : ∀ (n : Nat) (A : Around), A.units + n < cLine → ∀ (x y : V) (v u : Value), SqV X.K H n x y → RelV x v → RelV y u → EqP X.prog X.w A s v u true
  | 0, _, _, _, _, _, _, h, _, _ => (show False from h).elim
  | n + 1, A, hu, x, y, v, u, h, rx, ry => by
    rcases h with ⟨rfl, f⟩ | ⟨a, rfl, rfl⟩ | h
    · exact (eqAt_same rx ry f).eqP
    · cases (show v = Value.ref a from rx)
      cases (show u = Value.ref a from ry)
      exact (EqAt.same _).eqP
    · have step := sqR_eq I (A := A) (by omega) (sqV_eq I n A.in1 (by show A.units + 1 + n < cLine; omega)) h rx ry
      obtain ⟨a, b, rfl, rfl⟩ : ∃ a b, x = .ref a ∧ y = .ref b := by
        rcases h with ⟨a, b, _, _, e1, e2, _⟩ | ⟨a, b, _, _, e1, e2, _⟩ | ⟨a, b, _, _, e1, e2, _⟩ <;> exact ⟨a, b, e1, e2⟩
      cases (show v = Value.ref a from rx)
      cases (show u = Value.ref b from ry)
      by_cases e : a = b
      · subst e
        exact (EqAt.same _).eqP
      · exact eqP_refs e step
end
section
variable {X : Cx}
/-- ==, != of equal lists and tuples -/
def rEqQ (K : PySem.W.Frag) : R2 := fun x y H Q => ∃ n, n ≤ 60 ∧ SqR K H (SqV K H n) x y ∧ Q (.bl true) H
def rNeQ (K : PySem.W.Frag) : R2 := fun x y H Q => ∃ n a b xs ys, n ≤ 60 ∧ x = .ref a ∧ y = .ref b ∧ ((SqL K H a xs ∧ SqL K H b ys) ∨ (SqT K H a xs ∧ SqT K H b ys)) ∧ Paired (SqV K H n) xs ys ∧ Q (.bl false) H
theorem op_eqQ (hu : X.A.units + 64 < cLine) : OpR X (compareOp .Eq) (rEqQ X.K) := by
  intro pins s σ H x y v u Q I rx ry h
  obtain ⟨n, hn, h, q⟩ := h
  exact sqR_eq I (A := X.A) (by omega) (sqV_eq I n X.A.in1 (by show X.A.units + 1 + n < cLine; omega)) h rx ry _ _ ⟨.bl true, H, I, rfl, q⟩
theorem op_neQ (hu : X.A.units + 64 < cLine) : OpR X (compareOp .NotEq) (rNeQ X.K) := by
  intro pins s σ H x y v u Q I rx ry h
  obtain ⟨n, a, b, xs, ys, hn, rfl, rfl, h, hp, q⟩ := h
  have ih := sqV_eq I n X.A.in1 (by show X.A.units + 1 + n < cLine; omega)
  cases (show v = Value.ref a from rx)
  cases (show u = Value.ref b from ry)
  have fin : (EP X pins σ Q) (.bool false) s := ⟨.bl false, H, I, rfl, q⟩
  rcases h with ⟨ha, hb⟩ | ⟨ha, hb⟩
  · obtain ⟨us, r1, p1, _⟩ := I.list ha
    obtain ⟨ws, r2, p2, _⟩ := I.list hb
    have sz : us.toArray.size = ws.toArray.size := by
      rw [List.size_toArray, List.size_toArray, ← r1.length, ← r2.length]
      exact Paired.length hp
    exact rc_lst_ne p1.isList p2.isList sz (by omega) (fun j h1 h2 => by simpa using items_run ih hp r1 r2 j (by simpa using h1) (by simpa using h2)) _ _ fin
  · obtain ⟨us, r1, p1, _⟩ := I.tuple ha
    obtain ⟨ws, r2, p2, _⟩ := I.tuple hb
    have sz : us.toArray.size = ws.toArray.size := by
      rw [List.size_toArray, List.size_toArray, ← r1.length, ← r2.length]
      exact Paired.length hp
    exact rc_tup_ne p1 p2 sz (by omega) (fun j h1 h2 => by simpa using items_run ih hp r1 r2 j (by simpa using h1) (by simpa using h2)) _ _ fin
/-- ==, != of any of these: plain values, data without dicts, equal data -/
def rEqX (K : PySem.W.Frag) : R2 := fun x y H Q => rEq x y H Q ∨ rEqD K x y H Q ∨ rEqQ K x y H Q
def rNeX (K : PySem.W.Frag) : R2 := fun x y H Q => rNe x y H Q ∨ rNeD K x y H Q ∨ rNeQ K x y H Q
theorem op_eqX (hu : X.A.units + 64 < cLine) : OpR X (compareOp .Eq) (rEqX X.K) := by
  intro pins s σ H x y v u Q I rx ry h
  rcases h with h | h | h
  · exact op_eq pins s σ H x y v u Q I rx ry h
  · exact op_eqD hu pins s σ H x y v u Q I rx ry h
  · exact op_eqQ hu pins s σ H x y v u Q I rx ry h
theorem op_neX (hu : X.A.units + 64 < cLine) : OpR X (compareOp .NotEq) (rNeX X.K) := by
  intro pins s σ H x y v u Q I rx ry h
  rcases h with h | h | h
  · exact op_ne pins s σ H x y v u Q I rx ry h
  · exact op_neD hu pins s σ H x y v u Q I rx ry h
  · exact op_neQ hu pins s σ H x y v u Q I rx ry h
end
section
variable {K : PySem.W.Frag} {H : Hp} {Q : VK} {a b : Str} {i j : Int}
theorem txt_dec : decide (V.str a = V.str b) = decide (a = b) := by
  by_cases h : a = b
  · subst h; simp
  · rw [decide_eq_false h, decide_eq_false fun z => h (V.str.inj z)]
theorem r_eqXS (q : Q (.bl (decide (a = b))) H) : rEqX K (.str a) (.str b) H Q := .inl ⟨rfl, by rw [txt_dec]; exact q⟩
theorem r_neXS (q : Q (.bl (!decide (a = b))) H) : rNeX K (.str a) (.str b) H Q := .inl ⟨rfl, by rw [txt_dec]; exact q⟩
theorem r_eqXI (q : Q (.bl (decide (i = j))) H) : rEqX K (.int i) (.int j) H Q := .inl (r_eqI q)
theorem r_neXI (q : Q (.bl (!decide (i = j))) H) : rNeX K (.int i) (.int j) H Q := .inl (r_neI q)
end
end CP

set_option Elab.async false
set_option linter.all false
set_option maxRecDepth 100000
set_option maxHeartbeats 4000000
set_option autoImplicit false
/-! texts in order; lists of texts as values -/
namespace CP
open L2 PySem PyProof.Rows
def sle (a b : Str) : Prop := ¬ (b.cps.toList < a.cps.toList)
instance (a b : Str) : Decidable (sle a b) := inferInstanceAs (Decidable (¬ _))
theorem sle_refl (a : Str) : sle a a := List.lt_irrefl _
theorem sle_total (a b : Str) : sle a b ∨ sle b a := by
  by_cases h : b.cps.toList < a.cps.toList
  · exact .inr (List.lt_asymm h)
  · exact .inl h
theorem sle_trans {a b c : Str} (h1 : sle a b) (h2 : sle b c) : sle a c := by
  unfold sle at *
  rw [List.not_lt] at *
  exact List.le_trans h1 h2
theorem sle_anti {a b : Str} (h1 : sle a b) (h2 : sle b a) : a = b := by
  unfold sle at *
  rw [List.not_lt] at *
  have e := List.le_antisymm h1 h2
  cases a; cases b
  simp only at e
  rw [Array.toList_inj.mp e]
theorem rising_of : ∀ {l : List Str} {p : Str}, risingS p l = true → (p :: l).Pairwise sle
  | [], p, _ => List.pairwise_singleton _ _
  | x :: l, p, h => by
    unfold risingS at h
    rw [Bool.and_eq_true] at h
    have ih := rising_of h.2
    have hp : sle p x := by
      have := h.1
      rw [Bool.not_eq_true', ltCps_eq, decide_eq_false_iff_not] at this
      exact this
    refine List.pairwise_cons.mpr ⟨fun y hy => ?_, ih⟩
    rcases List.mem_cons.mp hy with e | e
    · rw [e]; exact hp
    · exact sle_trans hp (List.rel_of_pairwise_cons ih e)
theorem sorted_pw {l : List Str} (h : sortedS l = true) : l.Pairwise sle := by
  cases l with
  | nil => exact List.Pairwise.nil
  | cons x l => exact rising_of h
/-- in order -/
def srt (l : List Str) : List Str := l.mergeSort fun a b => decide (sle a b)
theorem srt_perm (l : List Str) : (srt l).Perm l := List.mergeSort_perm l _
theorem srt_pw (l : List Str) : (srt l).Pairwise sle := by
  have h := List.pairwise_mergeSort (le := fun a b => decide (sle a b)) (fun a b c h1 h2 => decide_eq_true (sle_trans (of_decide_eq_true h1) (of_decide_eq_true h2))) (fun a b => by
    rcases sle_total a b with h | h
    · rw [decide_eq_true h]; rfl
    · rw [decide_eq_true h, Bool.or_true]) l
  exact h.imp fun h => of_decide_eq_true h
theorem srt_unique {l m : List Str} (hp : l.Perm m) (h1 : l.Pairwise sle) (h2 : m.Pairwise sle) : l = m :=
  List.Perm.eq_of_pairwise (le := sle) (fun a b _ _ => sle_anti) h1 h2 hp
theorem srt_of {l ys : List Str} (hp : ys.Perm l) (h : sortedS ys = true) : ys = srt l := srt_unique (hp.trans (srt_perm l).symm) (sorted_pw h) (srt_pw l)
theorem srt_congr {l m : List Str} (h : l.Perm m) : srt l = srt m := srt_unique ((srt_perm l).trans (h.trans (srt_perm m).symm)) (srt_pw l) (srt_pw m)
theorem srt_len (l : List Str) : (srt l).length = l.length := (srt_perm l).length_eq
theorem mem_srt {l : List Str} {x : Str} : x ∈ srt l ↔ x ∈ l := (srt_perm l).mem_iff
theorem srt_id {l : List Str} (h : l.Pairwise sle) : srt l = l := srt_unique (srt_perm l) (srt_pw l) h
theorem srt_srt (l : List Str) : srt (srt l) = srt l := srt_id (srt_pw l)
/-- each once -/
def nub : List Str → List Str
  | [] => []
  | x :: l => if x ∈ l then nub l else x :: nub l
theorem mem_nub {l : List Str} {x : Str} : x ∈ nub l ↔ x ∈ l := by
  induction l with
  | nil => exact Iff.rfl
  | cons a l ih =>
    unfold nub
    split
    · rename_i h
      rw [ih, List.mem_cons]
      exact ⟨.inr, fun z => z.elim (fun e => e ▸ h) id⟩
    · rw [List.mem_cons, List.mem_cons, ih]
theorem nub_nodup (l : List Str) : (nub l).Nodup := by
  induction l with
  | nil => exact List.Pairwise.nil
  | cons a l ih =>
    unfold nub
    split
    · exact ih
    · rename_i h
      exact List.nodup_cons.mpr ⟨fun z => h (mem_nub.mp z), ih⟩
/-- sorted(set(l)) -/
def sset (l : List Str) : List Str := srt (nub l)
theorem mem_sset {l : List Str} {x : Str} : x ∈ sset l ↔ x ∈ l := mem_srt.trans mem_nub
theorem sset_nodup (l : List Str) : (sset l).Nodup := (srt_perm _).nodup_iff.mpr (nub_nodup l)
theorem sset_pw (l : List Str) : (sset l).Pairwise sle := srt_pw _
theorem sset_of {l ys : List Str} (h : sortedS ys = true) (hd : ys.Nodup) (hm : ∀ x, x ∈ ys ↔ x ∈ l) : ys = sset l :=
  srt_of ((List.perm_ext_iff_of_nodup hd (nub_nodup l)).mpr fun x => (hm x).trans mem_nub.symm) h
theorem sset_eq {l m : List Str} (hd : m.Nodup) (hp : m.Pairwise sle) (hm : ∀ x, x ∈ m ↔ x ∈ l) : m = sset l :=
  srt_unique (((List.perm_ext_iff_of_nodup hd (nub_nodup l)).mpr fun x => (hm x).trans mem_nub.symm).trans (srt_perm _).symm) hp (srt_pw _)
theorem sset_congr {l m : List Str} (h : ∀ x, x ∈ l ↔ x ∈ m) : sset l = sset m := sset_eq (sset_nodup l) (sset_pw l) fun x => mem_sset.trans (h x)
theorem sset_len (l : List Str) : (sset l).length ≤ l.length := by
  unfold sset
  rw [srt_len]
  induction l with
  | nil => exact Nat.le_refl 0
  | cons a l ih =>
    unfold nub
    split
    · rw [List.length_cons]; omega
    · rw [List.length_cons, List.length_cons]; omega
/-! lists of texts as values -/
def strL (l : List Str) : List V := l.map V.str
theorem strL_get {l : List Str} {i : Nat} {x : V} (h : (strL l)[i]? = some x) : ∃ n, l[i]? = some n ∧ x = .str n := by
  unfold strL at h
  rw [List.getElem?_map] at h
  cases e : l[i]? with
  | none => rw [e] at h; cases h
  | some n => rw [e] at h; exact ⟨n, rfl, (Option.some.inj h).symm⟩
theorem strL_len (l : List Str) : (strL l).length = l.length := List.length_map _
theorem strL_app (l m : List Str) : strL (l ++ m) = strL l ++ strL m := List.map_append
theorem strL_flat (l : List Str) : (strL l).all flatV = true := by
  unfold strL
  rw [List.all_map]
  exact List.all_eq_true.mpr fun _ _ => rfl
theorem inV_str (x : Str) (l : List Str) : inV (.str x) (strL l) = decide (x ∈ l) := by
  unfold inV strL
  induction l with
  | nil => rfl
  | cons a l ih =>
    rw [List.map_cons, List.any_cons, ih]
    show ((a == x) || _) = _
    by_cases e : a = x
    · subst e; simp
    · have e1 : (a == x) = false := by rw [beq_eq_false_iff_ne]; exact e
      rw [e1, Bool.false_or]
      simp [Ne.symm e]
/-! steps -/
abbrev oLenS : List V → Hp → VK → Prop := fun xs H Q => ∃ z, xs = [.str z] ∧ z.length ≤ sizeLine ∧ Q (.int z.length) H
section
variable {K : PySem.W.Frag} {σ : L2.St} {H : Hp} {Q : VK} {z : Str} {a b : Addr} {xs ys : List Str}
theorem r_lenS (h : z.length ≤ sizeLine) (q : Q (.int z.length) H) : oLenS [.str z] H Q := ⟨z, rfl, h, q⟩
theorem r_inS {c : Nat} (q : Q (.bl (decide (c ∈ z.cps.toList))) H) : rInS (.str ⟨#[c]⟩) (.str z) H Q := ⟨c, z, rfl, rfl, q⟩
theorem r_notInS {c : Nat} (q : Q (.bl (!decide (c ∈ z.cps.toList))) H) : rNotInS (.str ⟨#[c]⟩) (.str z) H Q := ⟨c, z, rfl, rfl, q⟩
theorem r_iStr {te : TE} {R : It → Hp → Prop} (q : te σ H fun v H1 => ∃ x, v = .str x ∧ R (Its x) H1) : iStr te σ H R := q
theorem r_strx {P : Str → Prop} (q : P z) : ∃ x, V.str z = .str x ∧ P x := ⟨z, rfl, q⟩
theorem r_chain {r r' : R2} {ta tb tc : TE} (q : ta σ H fun x H1 => tb σ H1 fun y H2 => r x y H2 fun v H3 => ∃ c, v = .bl c ∧ if c = true then tc σ H3 fun z H4 => r' y z H4 Q else Q (.bl false) H3) : tChain r r' ta tb tc σ H Q := q
theorem r_lc2 {P : Bool → Prop} {x : Bool} (q : P x) : ∃ c, V.bl x = .bl c ∧ P c := ⟨x, rfl, q⟩
/-! comparing -/
theorem dpA_strs : ∀ xs : List Str, DpAll K H (strL xs) (xs.map PyData.str)
  | [] => .nil
  | x :: xs => .cons (.str x) (dpA_strs xs)
theorem lay_strs (hs : ∀ x ∈ xs, (PyData.str x).canLay0 = true) : PyData.canLayAll0 (xs.map PyData.str) = true ∧ PyData.depthAll (xs.map PyData.str) = 0 := by
  induction xs with
  | nil => exact ⟨by simp [PyData.canLayAll0], by simp [PyData.depthAll]⟩
  | cons x xs ih =>
    obtain ⟨h1, h2⟩ := ih fun y hy => hs y (List.mem_cons_of_mem _ hy)
    refine ⟨by simp [PyData.canLayAll0, h1, hs x (List.mem_cons_self ..)], ?_⟩
    simp only [List.map_cons, PyData.depthAll, PyData.depth]
    omega
theorem eqv_strs : ∀ xs ys : List Str, PyData.eqvAll (xs.map PyData.str) (ys.map PyData.str) = decide (xs = ys)
  | [], [] => by simp [PyData.eqvAll]
  | [], _ :: _ => by simp [PyData.eqvAll]
  | _ :: _, [] => by simp [PyData.eqvAll]
  | a :: r, b :: t => by
    simp only [List.map_cons, PyData.eqvAll, PyData.eqv, eqv_strs r t]
    by_cases h : a = b <;> by_cases h' : r = t <;> simp [h, h']
theorem strs_eqX (h : SqL K H a (strL xs)) (h2 : SqL K H b (strL ys)) (hx : ∀ x ∈ xs, (PyData.str x).canLay0 = true) (hy : ∀ y ∈ ys, (PyData.str y).canLay0 = true) (q : Q (.bl (decide (xs = ys))) H) : rEqX K (.ref a) (.ref b) H Q := by
  obtain ⟨x1, x2⟩ := lay_strs hx
  obtain ⟨y1, y2⟩ := lay_strs hy
  refine .inr (.inl ⟨_, _, .lst h (dpA_strs xs), .lst h2 (dpA_strs ys), ?_, ?_, ?_⟩)
  · exact Bool.and_eq_true_iff.mpr ⟨by simp only [PyData.canLay0]; exact x1, decide_eq_true (by simp only [PyData.depth]; omega)⟩
  · exact Bool.and_eq_true_iff.mpr ⟨by simp only [PyData.canLay0]; exact y1, decide_eq_true (by simp only [PyData.depth]; omega)⟩
  · show Q (.bl (PyData.eqvAll (xs.map PyData.str) (ys.map PyData.str))) H
    rw [eqv_strs]
    exact q
theorem strs_neX (h : SqL K H a (strL xs)) (h2 : SqL K H b (strL ys)) (hx : ∀ x ∈ xs, (PyData.str x).canLay0 = true) (hy : ∀ y ∈ ys, (PyData.str y).canLay0 = true) (q : Q (.bl (!decide (xs = ys))) H) : rNeX K (.ref a) (.ref b) H Q := by
  obtain ⟨x1, x2⟩ := lay_strs hx
  obtain ⟨y1, y2⟩ := lay_strs hy
  refine .inr (.inl ⟨_, _, .lst h (dpA_strs xs), .lst h2 (dpA_strs ys), ?_, ?_, ?_⟩)
  · exact Bool.and_eq_true_iff.mpr ⟨by simp only [PyData.canLay0]; exact x1, decide_eq_true (by simp only [PyData.depth]; omega)⟩
  · exact Bool.and_eq_true_iff.mpr ⟨by simp only [PyData.canLay0]; exact y1, decide_eq_true (by simp only [PyData.depth]; omega)⟩
  · show Q (.bl (!PyData.eqvAll (xs.map PyData.str) (ys.map PyData.str))) H
    rw [eqv_strs]
    exact q
/-- two lists of any items, one of them empty: xs == [], xs != [] -/
theorem nil_eqX {vs : List V} (h : SqL K H a vs) (h2 : SqL K H b []) (hd : ∃ ds, DpAll K H vs ds ∧ PyData.canLayAll0 ds = true ∧ PyData.depthAll ds ≤ 60) (q : Q (.bl vs.isEmpty) H) : rEqX K (.ref a) (.ref b) H Q := by
  obtain ⟨ds, d1, d2, d3⟩ := hd
  refine .inr (.inl ⟨.list ds, .list [], .lst h d1, .lst h2 .nil, ?_, ?_, ?_⟩)
  · exact Bool.and_eq_true_iff.mpr ⟨by simp only [PyData.canLay0]; exact d2, decide_eq_true (by simp only [PyData.depth]; omega)⟩
  · decide +kernel
  · cases d1 with
    | nil => simpa [PyData.eqv, PyData.eqvAll] using q
    | cons _ _ => simpa [PyData.eqv, PyData.eqvAll] using q
theorem nil_neX {vs : List V} (h : SqL K H a vs) (h2 : SqL K H b []) (hd : ∃ ds, DpAll K H vs ds ∧ PyData.canLayAll0 ds = true ∧ PyData.depthAll ds ≤ 60) (q : Q (.bl (!vs.isEmpty)) H) : rNeX K (.ref a) (.ref b) H Q := by
  obtain ⟨ds, d1, d2, d3⟩ := hd
  refine .inr (.inl ⟨.list ds, .list [], .lst h d1, .lst h2 .nil, ?_, ?_, ?_⟩)
  · exact Bool.and_eq_true_iff.mpr ⟨by simp only [PyData.canLay0]; exact d2, decide_eq_true (by simp only [PyData.depth]; omega)⟩
  · decide +kernel
  · cases d1 with
    | nil => simpa [PyData.eqv, PyData.eqvAll] using q
    | cons _ _ => simpa [PyData.eqv, PyData.eqvAll] using q
theorem strs_dp (hx : ∀ x ∈ xs, (PyData.str x).canLay0 = true) : ∃ ds, DpAll K H (strL xs) ds ∧ PyData.canLayAll0 ds = true ∧ PyData.depthAll ds ≤ 60 :=
  ⟨_, dpA_strs xs, (lay_strs hx).1, by rw [(lay_strs hx).2]; decide⟩
end
end CP

set_option Elab.async false
set_option linter.all false
set_option maxRecDepth 100000
set_option maxHeartbeats 4000000
set_option autoImplicit false
/-! == and != of instances of a class with its own __eq__ (and no own __ne__) -/
namespace CP
open PySem L2 PySem.W PyProof.Rows
section
variable {prog : Program} {w : World} {A : Around} {E : Value → Shared → Prop} {s : Shared} {K : Frag} {x C L f : Addr} {h₀ : Heap} {m : Str → Option Value} {ox : Obj} {od : Option Obj} {b tb : Value}
theorem ne_bound (self : Value) : bindSpecial (.builtin "object.__ne__") self = pure (.builtin "object.__ne__", [self]) :=
  (Slot.of (T := "object") (name := "__ne__") (owner := "object") (n := "__ne__") (by rw [typeLookup_type, builtinLookup_eq_fast]; kernel_rfl) (by decide +kernel) (by decide +kernel) (by decide +kernel)
    (.inl (by decide +kernel)) (by rw [isSubtype_type]; kernel_rfl)).bind self
theorem bound_ne {M : Model} {args : List Value} {Q : Option Value → Shared → Prop} (X : K.In s.heap) (I : InstAt s.heap x ox C od) (hs : findIn K (.ref C) "__ne__" = some (some (.builtin "object.__ne__")))
    (h : wpAny M A (call (.builtin "object.__ne__") (.ref x :: args)) (fun v => Q (some v)) E s) : wpAny M A (callSpecialIfBound? (.ref x) "__ne__" args) Q E s := by
  simp only [callSpecialIfBound?, bindSpecialIfBound?]
  refine wpAny_holding (wpAny_bind (wpAny_bind (wpAny_bind (I.type.here ((looks_findIn X hs).here ?_)))))
  refine wpAny_bind (wpAny_askSetting (wpAny_ite ?_))
  have fin : wpAny M A (call (.builtin "object.__ne__") ([.ref x] ++ args) >>= fun v => pure (some v)) Q E s := wpAny_bind (wpAny_mono h (fun v s' z => wpAny_pure z) fun _ _ z => z)
  rw [ne_bound]
  split
  · exact wpAny_bind (wpAny_pure (wpAny_pure (by exact fin)))
  · exact wpAny_tryCatch (wpAny_bind (wpAny_pure (wpAny_pure (by exact fin))))
/-- what the own __eq__ answers, turned about -/
theorem object_ne {Q : Fin → Shared → Prop} (X : K.In s.heap) (I : InstAt s.heap x ox C od) (hu : A.units < cLine) (hs : findIn K (.ref C) "__eq__" = some (some (.ref f))) (hf : isFn K (.ref f) = true)
    (h : wpAny (model prog w) A (call (.ref f) [.ref x, b]) (fun v s' => ∃ c, v = .bool c ∧ Q (.done (.ret (.bool (!c)))) s') E s) : wpAny (model prog w) A (Builtin.«object.__ne__» ⟨[.ref x, b], []⟩) Q E s := by
  unfold Builtin.«object.__ne__»
  refine wpAny_bind (m := slotArgs "__ne__" 1 ⟨[.ref x, b], []⟩) (wpAny_pure ?_)
  refine wpAny_bind (wpAny_cRoomFor hu ?_)
  refine wpAny_bind (m := callSpecialIfBound? (.ref x) (Str.ofString "__eq__") [b]) (ifBound_K X I hs hf (wpAny_mono h (fun v s' z => ?_) fun _ _ z => z))
  obtain ⟨c, rfl, q⟩ := z
  exact wpAny_bind (m := truthy (.bool c)) (wpAny_truthy_bool (wpAny_pure q))
theorem cmp_ne {Q : Value → Shared → Prop} (hu : A.units + 1 < cLine) (F : Fr h₀ L s.heap m) (X₀ : K.In h₀) (I : InstAt s.heap x ox C od) (hb : Looks (model prog w) s.heap (typeOf b) tb) (hn : notFirst K C tb = true) (ho : subIn K (.ref C) (.type "object") = some true)
    (hne : findIn K (.ref C) "__ne__" = some (some (.builtin "object.__ne__"))) (hs : findIn K (.ref C) "__eq__" = some (some (.ref f))) (hf : isFn K (.ref f) = true)
    (h : wpAny (model prog w) A.in1 (call (.ref f) [.ref x, b]) (fun v s' => ∃ c, v = .bool c ∧ Q (.bool (!c)) s') E s) : wpAny (model prog w) A (richCompare .NotEq (.ref x) b) Q E s := by
  have X := X₀.keeps F.keep
  have one : wpAny (model prog w) A (tryCompare (.ref x) "__ne__" b) (fun r s' => ∃ v, r = some v ∧ Q v s') E s := by
    unfold tryCompare
    refine wpAny_bind (bound_ne X I hne (wpAny_call (codeAny_call_builtin (by decide +kernel) PySem.F.cmpEntry_ne
      (@check_slot (model prog w) _ _ _ "object.__ne__" "object" "__ne__" (.ref x) [b] [] _ PySem.F.cmpKind_ne PySem.F.cmpSplit_ne (I.type.andThen (looks_subIn X ho)) (PySem.F.cmpArgs_ne _ _) ?_))))
    refine object_ne (A := A.in1) X I hu hs hf (wpAny_mono h (fun v s' z => ?_) fun _ _ z => z)
    obtain ⟨c, rfl, q⟩ := z
    exact ⟨c, rfl, wpAny_pure ⟨_, rfl, q⟩⟩
  unfold richCompare
  simp only [oneThing_ref]
  refine wpAny_holding (wpAny_bind (wpAny_cRoomFor (Nat.lt_of_succ_lt hu) ?_))
  refine wpAny_bind (I.type.here (wpAny_bind (hb.here ?_)))
  have fin : wpAny (model prog w) A (tryCompare (.ref x) "__ne__" b) (fun r s' => wpAny (model prog w) A (match r with | some v => pure v | none => (do
      if let some v ← tryCompare b "__ne__" (.ref x) then return v
      pure (.bool (!(← isSame (.ref x) b))))) Q E s') E s := wpAny_mono one (fun r s' z => by
    obtain ⟨v, rfl, q⟩ := z
    exact wpAny_pure q) fun _ _ z => z
  split
  · rename_i q
    have e : subIn K tb (.ref C) = some false := by
      rcases Bool.or_eq_true_iff.mp hn with e | e
      · rw [beq_iff_eq.mp e] at q; simp at q
      · exact beq_iff_eq.mp e
    refine wpAny_bind ((looks_subIn X e).here ?_)
    simp only [Bool.false_eq_true, if_false]
    refine wpAny_bind (wpAny_mono one (fun r s' z => ?_) fun _ _ z => z)
    obtain ⟨v, rfl, hq⟩ := z
    exact wpAny_pure hq
  · refine wpAny_bind (wpAny_pure ?_)
    simp only [Bool.false_eq_true, if_false]
    refine wpAny_bind (wpAny_mono one (fun r s' z => ?_) fun _ _ z => z)
    obtain ⟨v, rfl, hq⟩ := z
    exact wpAny_pure hq
end
/-- what isinstance asks of a class -/
structure ClsI (K : Frag) (C : Addr) : Prop where
  cl : Cls K C
  at_ : findIn K (.ref C) "__class__" = some (some (.builtin "object.__class__"))
  sp : specialIn K (.builtin "object.__class__") "__get__" = some (some (.builtin "getset_descriptor.__get__"))
  tk : takesIn K (.builtin "object.__class__") = some true
  mro : mroIn K C (.type "object") = some true
/-- what has to be known of such a class -/
structure OwnEq (K : Frag) (C f : Addr) : Prop where
  eq : findIn K (.ref C) "__eq__" = some (some (.ref f))
  fn : isFn K (.ref f) = true
  ne : findIn K (.ref C) "__ne__" = some (some (.builtin "object.__ne__"))
  ob : subIn K (.ref C) (.type "object") = some true
section
variable {X : Cx} {CX : CXT} {k : Nat} {C f : Addr} {fd : FuncData} {ps : List Str} {sp : Sp} {E : XK}
def rEqO (C : Addr) (sp : Sp) (E : XK) : R2 := fun x y H Q => ∃ a b dx dy fs gs, x = .ref a ∧ y = .ref b ∧ H a = some (.ins C dx fs) ∧ H b = some (.ins C dy gs) ∧ sp [x, y] H (fun v H' => ∃ c, v = .bl c ∧ Q (.bl c) H') E
def rNeO (C : Addr) (sp : Sp) (E : XK) : R2 := fun x y H Q => ∃ a b dx dy fs gs, x = .ref a ∧ y = .ref b ∧ H a = some (.ins C dx fs) ∧ H b = some (.ins C dy gs) ∧ sp [x, y] H (fun v H' => ∃ c, v = .bl c ∧ Q (.bl (!c)) H') E
theorem op_neO (O : OwnEq X.K C f) (F : FnOk X.prog X.w X.K X.mg X.base CX k f fd ps sp) (hr : Room (k + 1) X.A) (hb : Binds X.K fd ps []) (hx : Passes CX X E) : OpR X (compareOp .NotEq) (rNeO C sp E) := by
  intro pins s σ H x y v u Q I rx ry h
  obtain ⟨a, b, dx, dy, fs, gs, rfl, rfl, ha, hb', pr⟩ := h
  cases rx
  cases ry
  obtain ⟨mA, J, _⟩ := ins_get I.hok ha
  obtain ⟨mB, J', _⟩ := ins_get I.hok hb'
  obtain ⟨o1, J, _⟩ := J.look
  obtain ⟨o2, J', _⟩ := J'.look
  obtain ⟨m, hF⟩ := I.fr
  have room : Room k X.A.in1 := hr.in1
  refine cmp_ne (tb := .ref C) (by have := hr.units; omega) hF I.ok.mod.kin J J'.type (by simp [notFirst]) O.ob O.ne O.eq O.fn ?_
  have e0 : Env0 X.prog X.w X.K X.mg X.base X.A.in1 X.stack s H := I.env0.in1
  have hl := F.len _ _ _ _ pr
  have r2 : Vals [V.ref a, V.ref b] [Value.ref a, Value.ref b] := .cons rfl (.cons rfl .nil)
  refine wpAny_call (codeAny_mono (F.run X.A.in1 X.stack s H ⟨[.ref a, .ref b], []⟩ [.ref a, .ref b] [.ref a, .ref b] _ E room e0 (by
    have z := hb s [.ref a, .ref b] I.kIn (by simpa using hl)
    simpa using z) r2 pr) fun r s' z => ?_)
  match r, z with
  | .error e, z => exact hx pins σ H s e s' I z
  | .ok (.ret t), z =>
    obtain ⟨zv, H', I', rz, c, ec, q⟩ := I.after z
    subst ec
    cases rz
    exact ⟨c, rfl, .bl (!c), H', I', rfl, q⟩
theorem op_eqO (O : OwnEq X.K C f) (F : FnOk X.prog X.w X.K X.mg X.base CX k f fd ps sp) (hr : Room (k + 1) X.A) (hb : Binds X.K fd ps []) (hx : Passes CX X E) : OpR X (compareOp .Eq) (rEqO C sp E) := by
  intro pins s σ H x y v u Q I rx ry h
  obtain ⟨a, b, dx, dy, fs, gs, rfl, rfl, ha, hb', pr⟩ := h
  cases rx
  cases ry
  obtain ⟨mA, J, _⟩ := ins_get I.hok ha
  obtain ⟨mB, J', _⟩ := ins_get I.hok hb'
  obtain ⟨o1, J, _⟩ := J.look
  obtain ⟨o2, J', _⟩ := J'.look
  obtain ⟨m, hF⟩ := I.fr
  refine cmp_K (op := .Eq) (tb := .ref C) hr.units0 hF I.ok.mod.kin J J'.type (by simp [notFirst]) O.eq O.fn ?_
  have hl := F.len _ _ _ _ pr
  have r2 : Vals [V.ref a, V.ref b] [Value.ref a, Value.ref b] := .cons rfl (.cons rfl .nil)
  refine wpAny_call (codeAny_mono (F.run X.A X.stack s H ⟨[.ref a, .ref b], []⟩ [.ref a, .ref b] [.ref a, .ref b] _ E (hr.mono (by omega)) I.env0 (by
    have z := hb s [.ref a, .ref b] I.kIn (by simpa using hl)
    simpa using z) r2 pr) fun r s' z => ?_)
  match r, z with
  | .error e, z => exact hx pins σ H s e s' I z
  | .ok (.ret t), z =>
    obtain ⟨zv, H', I', rz, c, ec, q⟩ := I.after z
    subst ec
    cases rz
    exact ⟨.bl c, H', I', rfl, q⟩
end
end CP

set_option Elab.async false
set_option linter.all false
set_option maxRecDepth 100000
set_option maxHeartbeats 4000000
set_option autoImplicit false
/-! plain tables as values: letters, products, sides, rows -/
namespace CP
open L2 PySem PyProof.Rows
def smallT : Str := "abcdefghijklmnopqrstuvwxyz"
def letB (z : Str) : Bool := decide (1 ≤ z.length ∧ z.length ≤ 10) && z.cps.toList.all fun c => decide (c ∈ smallT.cps.toList)
theorem small_low : ∀ c ∈ smallT.cps.toList, c < 0x110000 := by decide +kernel
theorem let_lay {z : Str} (h : letB z = true) : (PyData.str z).canLay0 = true := by
  unfold letB at h
  rw [Bool.and_eq_true] at h
  simp only [PyData.canLay0]
  show z.cps.all (· < 0x110000) = true
  rw [← Array.all_toList, List.all_eq_true]
  intro c hc
  exact decide_eq_true (small_low c (of_decide_eq_true (List.all_eq_true.mp h.2 c hc)))
theorem let_len {z : Str} (h : letB z = true) : 1 ≤ z.length ∧ z.length ≤ 10 := by
  unfold letB at h
  rw [Bool.and_eq_true] at h
  exact of_decide_eq_true h.1
abbrev Sd := Str × List Str × List Str
/-- a product of letters -/
def Lets (l : List Str) : Prop := (∀ x ∈ l, letB x = true) ∧ l.length ≤ 30
theorem Lets.lay {l : List Str} (h : Lets l) : ∀ x ∈ l, (PyData.str x).canLay0 = true := fun x hx => let_lay (h.1 x hx)
theorem Lets.perm {l m : List Str} (h : Lets l) (p : m.Perm l) : Lets m := ⟨fun x hx => h.1 x (p.mem_iff.mp hx), by rw [p.length_eq]; exact h.2⟩
theorem lets_nil : Lets [] := ⟨by simp, by simp⟩
/-- sides that make a table -/
structure Rows (rows : List Sd) : Prop where
  ne : rows ≠ []
  few : rows.length ≤ 20
  name : ∀ r ∈ rows, letB r.1 = true
  size : ∀ r ∈ rows, Lets r.2.1
  step : ∀ r ∈ rows, Lets r.2.2
  dis : (rows.map (·.1)).Nodup
  out : ∀ r ∈ rows, ∀ x ∈ r.2.1 ++ r.2.2, x ∉ rows.map (·.1)
def SideAt (H : Hp) (v : V) (r : Sd) : Prop := ∃ t a b, v = .ref t ∧ H t = some (.tup [.str r.1, .ref a, .ref b]) ∧ H a = some (.lst (strL r.2.1)) ∧ H b = some (.lst (strL r.2.2))
theorem SideAt.mono {H H' : Hp} {v : V} {r : Sd} (h : SideAt H v r) (s : Same H H') : SideAt H' v r := by
  obtain ⟨t, a, b, e, h1, h2, h3⟩ := h
  exact ⟨t, a, b, e, s _ _ h1, s _ _ h2, s _ _ h3⟩
def RowsAt (H : Hp) (p : Addr) (rows : List Sd) : Prop := ∃ vs, H p = some (.lst vs) ∧ Paired (SideAt H) vs rows
theorem RowsAt.mono {H H' : Hp} {p : Addr} {rows : List Sd} (h : RowsAt H p rows) (s : Same H H') : RowsAt H' p rows := by
  obtain ⟨vs, e, pr⟩ := h
  exact ⟨vs, s _ _ e, pd_mono pr fun _ _ z => SideAt.mono z s⟩
theorem sides_mono {H H' : Hp} {vs : List V} {rows : List Sd} (h : Paired (SideAt H) vs rows) (s : Same H H') : Paired (SideAt H') vs rows := pd_mono h fun _ _ z => SideAt.mono z s
/-! as data -/
def sideD (r : Sd) : PyData := .tuple [.str r.1, .list (r.2.1.map .str), .list (r.2.2.map .str)]
theorem side_dp {K : PySem.W.Frag} {H : Hp} {v : V} {r : Sd} (h : SideAt H v r) : Dp K H v (sideD r) := by
  obtain ⟨t, a, b, rfl, h1, h2, h3⟩ := h
  exact .tup (.of h1) (.cons (.str _) (.cons (.lst (.of h2) (dpA_strs _)) (.cons (.lst (.of h3) (dpA_strs _)) .nil)))
theorem rows_dp {K : PySem.W.Frag} {H : Hp} {vs : List V} {rows : List Sd} (h : Paired (SideAt H) vs rows) : DpAll K H vs (rows.map sideD) := by
  induction h with
  | nil => exact .nil
  | cons h _ ih => exact .cons (side_dp h) ih
theorem side_lay {r : Sd} (h0 : (PyData.str r.1).canLay0 = true) (h1 : ∀ x ∈ r.2.1, (PyData.str x).canLay0 = true) (h2 : ∀ x ∈ r.2.2, (PyData.str x).canLay0 = true) : (sideD r).canLay0 = true ∧ (sideD r).depth = 2 := by
  obtain ⟨a1, a2⟩ := lay_strs h1
  obtain ⟨b1, b2⟩ := lay_strs h2
  have h0' := h0
  simp only [PyData.canLay0] at h0'
  refine ⟨by simp [sideD, PyData.canLay0, PyData.canLayAll0, a1, b1, h0'], ?_⟩
  simp only [sideD, PyData.depth, PyData.depthAll, a2, b2]
  rfl
theorem rows_lay {rows : List Sd} (h : ∀ r ∈ rows, (sideD r).canLay0 = true ∧ (sideD r).depth = 2) : PyData.canLayAll0 (rows.map sideD) = true ∧ PyData.depthAll (rows.map sideD) ≤ 2 := by
  induction rows with
  | nil => exact ⟨by simp [PyData.canLayAll0], by simp [PyData.depthAll]⟩
  | cons r rows ih =>
    obtain ⟨i1, i2⟩ := ih fun x hx => h x (List.mem_cons_of_mem _ hx)
    obtain ⟨a1, a2⟩ := h r (List.mem_cons_self ..)
    refine ⟨by simp [PyData.canLayAll0, a1, i1], ?_⟩
    simp only [List.map_cons, PyData.depthAll]
    omega
theorem Rows.lay {rows : List Sd} (h : Rows rows) : ∀ r ∈ rows, (sideD r).canLay0 = true ∧ (sideD r).depth = 2 := fun r hr => side_lay (let_lay (h.name r hr)) (h.size r hr).lay (h.step r hr).lay
theorem Rows.dp {K : PySem.W.Frag} {H : Hp} {vs : List V} {rows : List Sd} (h : Rows rows) (p : Paired (SideAt H) vs rows) : ∃ ds, DpAll K H vs ds ∧ PyData.canLayAll0 ds = true ∧ PyData.depthAll ds ≤ 60 :=
  ⟨_, rows_dp p, (rows_lay h.lay).1, Nat.le_trans (rows_lay h.lay).2 (by decide)⟩
section
variable {K : PySem.W.Frag} {H : Hp} {Q : VK} {a b : Addr} {xs ys : List Str} {vs : List V}
theorem tnil_eqX (h : SqT K H a vs) (h2 : SqT K H b []) (hd : ∃ ds, DpAll K H vs ds ∧ PyData.canLayAll0 ds = true ∧ PyData.depthAll ds ≤ 60) (q : Q (.bl vs.isEmpty) H) : rEqX K (.ref a) (.ref b) H Q := by
  obtain ⟨ds, d1, d2, d3⟩ := hd
  refine .inr (.inl ⟨.tuple ds, .tuple [], .tup h d1, .tup h2 .nil, ?_, ?_, ?_⟩)
  · exact Bool.and_eq_true_iff.mpr ⟨by simp only [PyData.canLay0]; exact d2, decide_eq_true (by simp only [PyData.depth]; omega)⟩
  · decide +kernel
  · cases d1 with
    | nil => simpa [PyData.eqv, PyData.eqvAll] using q
    | cons _ _ => simpa [PyData.eqv, PyData.eqvAll] using q
theorem nil_eqX0 (h : SqL K H a []) (h2 : SqL K H b []) (q : Q (.bl true) H) : rEqX K (.ref a) (.ref b) H Q := nil_eqX h h2 ⟨[], .nil, by decide +kernel, by decide +kernel⟩ q
theorem nil_neX0 (h : SqL K H a []) (h2 : SqL K H b []) (q : Q (.bl false) H) : rNeX K (.ref a) (.ref b) H Q := nil_neX h h2 ⟨[], .nil, by decide +kernel, by decide +kernel⟩ q
theorem nil_eqX1 {v : V} (h : SqL K H a (v :: vs)) (h2 : SqL K H b []) (hd : ∃ ds, DpAll K H (v :: vs) ds ∧ PyData.canLayAll0 ds = true ∧ PyData.depthAll ds ≤ 60) (q : Q (.bl false) H) : rEqX K (.ref a) (.ref b) H Q := nil_eqX h h2 hd q
theorem nil_neX1 {v : V} (h : SqL K H a (v :: vs)) (h2 : SqL K H b []) (hd : ∃ ds, DpAll K H (v :: vs) ds ∧ PyData.canLayAll0 ds = true ∧ PyData.depthAll ds ≤ 60) (q : Q (.bl true) H) : rNeX K (.ref a) (.ref b) H Q := nil_neX h h2 hd q
theorem r_inStr {x : Str} (h : SqL K H a (strL xs)) (q : Q (.bl (decide (x ∈ xs))) H) : rIn K false (.str x) (.ref a) H Q := r_in h rfl (strL_flat _) (by rw [inV_str]; exact q)
theorem r_niStr {x : Str} (h : SqL K H a (strL xs)) (q : Q (.bl (!decide (x ∈ xs))) H) : rIn K true (.str x) (.ref a) H Q := r_in h rfl (strL_flat _) (by rw [inV_str]; exact q)
theorem r_slA {lo hi : Option Int} (h : SqT K H a vs) (hw : ¬ (HT.sIx vs.length 0 lo = 0 ∧ HT.sIx vs.length vs.length hi = vs.length)) (q : ∀ l H', H l = none → Same H H' → H' l = some (.tup (cutV vs lo hi)) → Q (.ref l) H') : rSlA K (.ref a) lo hi H Q :=
  ⟨a, vs, rfl, h, fun z => absurd z hw, fun _ p hp => q p _ hp (same_new hp) upd_same⟩
theorem eqX_d {d e : PyData} {x y : V} (h1 : Dp K H x d) (h2 : Dp K H y e) (s1 : d.canLay0 = true) (s2 : e.canLay0 = true) (d1 : d.depth ≤ 60) (d2 : e.depth ≤ 60) (q : Q (.bl (PyData.eqv d e)) H) : rEqX K x y H Q :=
  .inr (.inl ⟨d, e, h1, h2, Bool.and_eq_true_iff.mpr ⟨s1, decide_eq_true (by omega)⟩, Bool.and_eq_true_iff.mpr ⟨s2, decide_eq_true (by omega)⟩, q⟩)
theorem neX_d {d e : PyData} {x y : V} (h1 : Dp K H x d) (h2 : Dp K H y e) (s1 : d.canLay0 = true) (s2 : e.canLay0 = true) (d1 : d.depth ≤ 60) (d2 : e.depth ≤ 60) (q : Q (.bl (!PyData.eqv d e)) H) : rNeX K x y H Q :=
  .inr (.inl ⟨d, e, h1, h2, Bool.and_eq_true_iff.mpr ⟨s1, decide_eq_true (by omega)⟩, Bool.and_eq_true_iff.mpr ⟨s2, decide_eq_true (by omega)⟩, q⟩)
end
/-- what an item of the rows is -/
theorem side_at {H H' : Hp} {vs : List V} {rows : List Sd} (pr : Paired (SideAt H) vs rows) (s : Same H H') {i : Nat} {x : V} (hx : vs[i]? = some x) :
    ∃ r t a b, rows[i]? = some r ∧ r ∈ rows ∧ x = .ref t ∧ H' t = some (.tup [.str r.1, .ref a, .ref b]) ∧ H' a = some (.lst (strL r.2.1)) ∧ H' b = some (.lst (strL r.2.2)) := by
  obtain ⟨r, hr, t, a, b, e, h1, h2, h3⟩ := pd_get pr hx
  exact ⟨r, t, a, b, hr, List.mem_of_getElem? hr, e, s _ _ h1, s _ _ h2, s _ _ h3⟩
/-! tables as objects -/
def srow (r : Sd) : Sd := (r.1, srt r.2.1, srt r.2.2)
def TabAt (C : Addr) (H : Hp) (o : Addr) (rows : List Sd) : Prop := ∃ dx p, H o = some (.ins C dx [("row", .ref p)]) ∧ RowsAt H p rows
theorem TabAt.mono {C : Addr} {H H' : Hp} {o : Addr} {rows : List Sd} (h : TabAt C H o rows) (s : Same H H') : TabAt C H' o rows := by
  obtain ⟨dx, p, h1, h2⟩ := h
  exact ⟨dx, p, s _ _ h1, h2.mono s⟩
theorem Rows.srow {rows : List Sd} (h : Rows rows) : Rows (rows.map srow) := by
  have e : (rows.map CP.srow).map (·.1) = rows.map (·.1) := by rw [List.map_map]; rfl
  refine ⟨fun z => h.ne (List.map_eq_nil_iff.mp z), by rw [List.length_map]; exact h.few, fun r hr => ?_, fun r hr => ?_, fun r hr => ?_, by rw [e]; exact h.dis, fun r hr x hx => ?_⟩
  · obtain ⟨u, hu, rfl⟩ := List.mem_map.mp hr; exact h.name u hu
  · obtain ⟨u, hu, rfl⟩ := List.mem_map.mp hr; exact (h.size u hu).perm (srt_perm _)
  · obtain ⟨u, hu, rfl⟩ := List.mem_map.mp hr; exact (h.step u hu).perm (srt_perm _)
  · obtain ⟨u, hu, rfl⟩ := List.mem_map.mp hr
    rw [e]
    refine h.out u hu x ?_
    rcases List.mem_append.mp hx with z | z
    · exact List.mem_append_left _ (mem_srt.mp z)
    · exact List.mem_append_right _ (mem_srt.mp z)
section
variable {K : PySem.W.Frag} {w : World} {σ : L2.St} {H : Hp} {Q : VK} {a o C dx : Addr} {l : List Str} {fs : List (Str × V)} {f : Str} {v : V} {te ta tv : TE} {tas : TA} {D : Ends}
theorem r_sortS (h : SqL K H a (strL l)) (hn : l.length < 64) (q : ∀ p H', H p = none → Same H H' → H' p = some (.lst (strL (srt l))) → Q (.ref p) H') : rSortedS K [.ref a] H Q :=
  ⟨a, l, rfl, h, hn, fun ys p hp hs h0 => by
    rw [srt_of hp hs]
    exact q p _ h0 (same_new h0) upd_same⟩
theorem r_tfld (q : ta σ H fun x H1 => ∃ a C dx fs v, x = .ref a ∧ H1 a = some (.ins C dx fs) ∧ Cls K C ∧ NoAttr K C f ∧ fs.lookup f = some v ∧ Q v H1) : tFld K ta f σ H Q := q
theorem r_fget {P : V → Prop} (h : H o = some (.ins C dx fs)) (c : Cls K C) (n : NoAttr K C f) (l : fs.lookup f = some v) (q : P v) : ∃ a C dx fs v, V.ref o = .ref a ∧ H a = some (.ins C dx fs) ∧ Cls K C ∧ NoAttr K C f ∧ fs.lookup f = some v ∧ P v := ⟨o, C, dx, fs, v, rfl, h, c, n, l, q⟩
theorem r_sfld (q : tv σ H fun y H1 => ta σ H1 fun x H2 => ∃ a C dx fs, x = .ref a ∧ H2 a = some (.ins C dx fs) ∧ Cls K C ∧ NoAttr K C f ∧ fs.length < 1000 ∧ D.nx σ (upd H2 a (.ins C dx (putF f y fs)))) : sFld K ta tv f D σ H := q
theorem r_fput {N : Hp → Prop} (h : H o = some (.ins C dx fs)) (c : Cls K C) (n : NoAttr K C f) (l : fs.length < 1000) (q : ∀ H', SB o H H' → H' o = some (.ins C dx (putF f v fs)) → N H') : ∃ a C dx fs, V.ref o = .ref a ∧ H a = some (.ins C dx fs) ∧ Cls K C ∧ NoAttr K C f ∧ fs.length < 1000 ∧ N (upd H a (.ins C dx (putF f v fs))) :=
  ⟨o, C, dx, fs, rfl, h, c, n, l, q _ sb_upd upd_same⟩
theorem r_make {sp : Sp} {dvs : List V} {E : XK} (q : tas σ H fun vs H1 => ∀ x dx H', H1 x = none → Same H1 H' → H' x = some (.ins C dx []) → sp (.ref x :: (vs ++ dvs)) H' (fun v H2 => v = .non ∧ Q (.ref x) H2) E) (mono : ∀ {Q Q' : List V → Hp → Prop}, (∀ vs H, Q vs H → Q' vs H) → tas σ H Q → tas σ H Q') : tMake C sp dvs E tas σ H Q := by
  refine mono (fun vs H1 h => ?_) q
  intro x dx hx hdx ne
  refine h x dx _ hx (fun b o hb => ?_) upd_same
  rw [upd_ne (ne_of_none hb hx), upd_ne (ne_of_none hb hdx)]
  exact hb
theorem r_mk1 {P : Addr → Hp → Prop} (q : ∀ x dx H', H x = none → Same H H' → H' x = some (.ins C dx []) → P x H') : ∀ x dx, H x = none → H dx = none → dx ≠ x → P x (upd (upd H dx (.own x)) x (.ins C dx [])) := fun x dx hx hdx ne =>
  q x dx _ hx (fun b o hb => by
    rw [upd_ne (ne_of_none hb hx), upd_ne (ne_of_none hb hdx)]
    exact hb) upd_same
theorem r_tmake {sp : Sp} {dvs : List V} {E : XK} (q : tas σ H fun vs H1 => ∀ x dx, H1 x = none → H1 dx = none → dx ≠ x → sp (.ref x :: (vs ++ dvs)) (upd (upd H1 dx (.own x)) x (.ins C dx [])) (fun v H2 => v = .non ∧ Q (.ref x) H2) E) : tMake C sp dvs E tas σ H Q := q
theorem r_tmeth {sp : Sp} {dvs : List V} {E : XK} {m : Str} (q : ta σ H fun x H1 => ∃ a dx fs, x = .ref a ∧ H1 a = some (.ins C dx fs) ∧ fs.lookup m = none ∧ tas σ H1 fun vs H2 => sp (x :: (vs ++ dvs)) H2 Q E) : tMeth C m sp dvs E ta tas σ H Q := q
end
section
variable {K : PySem.W.Frag} {H : Hp} {Q : VK} {o C dx : Addr} {fs : List (Str × V)}
theorem r_isiC (h : H o = some (.ins C dx fs)) (c : ClsI K C) (q : Q (.bl true) H) : rIsi K [.ref o, .ref C] H Q := ⟨.ref o, .ref C, .ref C, .ref C, true, rfl, .own C, .base (.ins h c.cl c.at_ c.sp c.tk c.mro), by simp [PySem.W.kitOne], q⟩
end
theorem eqv_side (r s : Sd) : PyData.eqv (sideD r) (sideD s) = decide (r = s) := by
  obtain ⟨a, b, c⟩ := r
  obtain ⟨d, e, f⟩ := s
  simp only [sideD, PyData.eqv, PyData.eqvAll, eqv_strs]
  by_cases h1 : a = d <;> by_cases h2 : b = e <;> by_cases h3 : c = f <;> simp [h1, h2, h3]
theorem eqv_rows : ∀ rs ss : List Sd, PyData.eqvAll (rs.map sideD) (ss.map sideD) = decide (rs = ss)
  | [], [] => by simp [PyData.eqvAll]
  | [], _ :: _ => by simp [PyData.eqvAll]
  | _ :: _, [] => by simp [PyData.eqvAll]
  | a :: r, b :: t => by
    simp only [List.map_cons, PyData.eqvAll, eqv_side, eqv_rows r t]
    by_cases h : a = b <;> by_cases h' : r = t <;> simp [h, h']
/-- all letters of the products, each one once, in order -/
def sizesM (rows : List Sd) : List Str := sset (rows.flatMap fun r => r.2.1 ++ r.2.2)
section
variable {K : PySem.W.Frag} {a : Addr} {g : TG} {tt : TT} {te : TE} {vs : List Nat} {σ : L2.St} {H1 : Hp} {D : Addr} {Qd : Hp → Prop}
/-- a comprehension over texts that leaves some out -/
theorem lc_strF {l : List Str} (p : Str → Bool) (hD : H1 D = none) (ha : SqL K H1 a (strL l)) (hz : l.length < sizeLine)
    (hs : ∀ (i : Nat) (x : Str) (H : Hp), l[i]? = some x → Same H1 H → Turn (β := V) g tt te vs σ (fun _ x b => x = b) D H (.str x) (if p x = true then some (.str x) else none)) (hd : ∀ H, Same H1 H → H D = some (.lst (strL (l.filter p))) → Qd H) :
    ∃ W : Nat → Nat → Hp → Prop, (∃ m, W 0 m (upd H1 D (.lst []))) ∧ ∀ i m H, W i m H →
      ((Itl K a).stop i H ∧ Qd H) ∨ ((Itl K a).go i H ∧ ∃ Nx : Hp → Prop, (∀ H', Nx H' → ∃ m', m' < m ∧ W (i + 1) m' H') ∧ ∀ x H', (Itl K a).yld i H x H' → g x (wipe σ vs) H' fun σ2 H2 => wipe σ2 vs = wipe σ vs ∧ tt σ2 H2 fun b H3 =>
        if b = true then te σ2 H3 fun y H4 => ∃ acc, H4 D = some (.lst acc) ∧ acc.length < sizeLine ∧ Nx (upd H4 D (.lst (acc ++ [y]))) else Nx H3) := by
  refine lc_tell (β := V) (fun _ x b => x = b) (l.map fun x => if p x = true then some (.str x) else none) hD ha (by rw [strL_len, List.length_map]) (by rw [List.length_map]; exact hz) (fun _ _ _ _ _ z => z) (fun i x o H hx ho s1 _ => ?_) fun H acc s1 hacc pp => ?_
  · obtain ⟨z, hz, rfl⟩ := strL_get hx
    have e : o = if p z = true then some (.str z) else none := by
      rw [List.getElem?_map, hz] at ho
      exact (Option.some.inj ho).symm
    subst e
    exact hs i z H hz s1
  · have e : acc = strL (l.filter p) := by
      rw [pd_eq pp, List.filterMap_map]
      clear pp hs hz ha hd
      induction l with
      | nil => rfl
      | cons x l ih =>
        by_cases c : p x = true
        · rw [List.filterMap_cons_some (b := V.str x) (by show (if p x = true then some (V.str x) else none) = _; rw [if_pos c]), ih, List.filter_cons_of_pos c]
          rfl
        · rw [List.filterMap_cons_none (by show (if p x = true then some (V.str x) else none) = _; rw [if_neg c]), ih, List.filter_cons_of_neg c]
    rw [e] at hacc
    exact hd H s1 hacc
end
end CP

set_option Elab.async false
set_option linter.all false
set_option maxRecDepth 100000
set_option maxHeartbeats 4000000
set_option autoImplicit false
/-! lists of texts: remove, count -/
namespace CP
open L2 PySem PySem.Spec PyProof.Rows
def isTxt (k : Str) : Value → Bool
  | .str z _ => z == k
  | _ => false
theorem txt_beq (x y : Str) : (x.cps.toList == y.cps.toList) = (x == y) := by
  rw [Bool.eq_iff_iff, beq_iff_eq, beq_iff_eq]
  refine ⟨fun h => ?_, fun h => congrArg (fun z : Str => z.cps.toList) h⟩
  cases x
  cases y
  exact congrArg Str.mk (Array.toList_inj.mp h)
theorem txt_erase : ∀ (l : List Str) (j : Nat), strL (l.eraseIdx j) = (strL l).eraseIdx j
  | [], 0 => rfl
  | [], _ + 1 => rfl
  | _ :: _, 0 => rfl
  | z :: l, j + 1 => congrArg (List.cons (V.str z)) (txt_erase l j)
theorem txt_gives {k : Str} {t : Tok} : ∀ {l : List Str} {us : List Value}, Vals (strL l) us → ∀ y ∈ us, MeetsSeq.EqGives y (.str k t) (isTxt k y)
  | [], _, .nil, y, hy => nomatch hy
  | z :: l, _, .cons (l₂ := us) ⟨tz, ez⟩ r, y, hy => by
    subst ez
    rcases List.mem_cons.mp hy with rfl | hy
    · have := PySem.SeqRoads2.EqGives.str z k tz t
      rw [txt_beq] at this
      exact this
    · exact txt_gives (l := l) r y hy
theorem txt_count {k : Str} : ∀ {l : List Str} {us : List Value}, Vals (strL l) us → us.countP (isTxt k) = l.count k
  | [], _, .nil => rfl
  | z :: l, _, .cons (l₂ := us) ⟨tz, ez⟩ r => by
    subst ez
    have ih := txt_count (k := k) (l := l) r
    rw [List.countP_cons, List.count_cons, ih]
    rfl
theorem erase_at {k : Str} : ∀ {l : List Str}, k ∈ l → ∃ j, l[j]? = some k ∧ (∀ m, m < j → l[m]? ≠ some k) ∧ l.erase k = l.eraseIdx j
  | [], h => nomatch h
  | z :: l, h => by
    by_cases e : z = k
    · subst e
      exact ⟨0, rfl, fun _ h => absurd h (Nat.not_lt_zero _), by rw [List.erase_cons_head]; rfl⟩
    · obtain ⟨j, h1, h2, h3⟩ := erase_at (l := l) ((List.mem_cons.mp h).resolve_left (Ne.symm e))
      refine ⟨j + 1, h1, fun m hm => ?_, ?_⟩
      · cases m with
        | zero => exact fun z => e (Option.some.inj z)
        | succ m => exact h2 m (by omega)
      · rw [List.erase_cons_tail (by simpa using e), h3]
        rfl
section
variable {X : Cx}
def rRemS : V → List V → Hp → VK → Prop := fun x xs H Q => ∃ (l : Addr) (ns : List Str) (k : Str), x = .ref l ∧ xs = [.str k] ∧ H l = some (.lst (strL ns)) ∧ k ∈ ns ∧ Q .non (upd H l (.lst (strL (ns.erase k))))
theorem mt_remS : MtM X "list.remove" rRemS := by
  intro pins s σ H x xs v us Q I rx rxs ⟨l, ns, k, ex, exs, hH, hk, q⟩
  subst ex exs
  obtain ⟨j, hj, hno, hr⟩ := erase_at hk
  cases rx
  obtain ⟨u, eu, t, et⟩ := rxs.one
  subst eu et
  obtain ⟨z, its, n, r, hl, e⟩ := I.lstM hH
  have gv := txt_gives (k := k) (t := t) r
  have ln : its.length = ns.length := by rw [← r.length, strL_len]
  rw [strL_len] at hl z
  have jn : j < ns.length := (List.getElem?_eq_some_iff.mp hj).1
  have at_ : ∀ (m : Nat) (hm : m < its.toArray.size), ∃ tm, its.toArray[m] = .str (ns[m]'(by rw [List.size_toArray] at hm; omega)) tm := fun m hm => by
    have hm' : m < ns.length := by rw [List.size_toArray] at hm; omega
    obtain ⟨w, hw, tm, ew⟩ := r.get (i := m) (x := .str ns[m]) (by unfold strL; rw [List.getElem?_map, List.getElem?_eq_getElem hm']; rfl)
    subst ew
    obtain ⟨_, h2⟩ := List.getElem?_eq_some_iff.mp hw
    exact ⟨tm, by simpa using h2⟩
  have js : j < its.toArray.size := by rw [List.size_toArray]; omega
  refine call_meets PySem.F.slot_list_remove ⟨_, e, rfl⟩ PySem.F.entry_list_remove (PySem.F.args_list_remove_2 _ _)
    (MeetsSeq.list_remove l its.toArray n (.str k t) (isTxt k) (fun y hy => gv y (by simpa using hy)) j js ?_ (fun m hm lt => ?_) (by rw [List.size_toArray]; omega)) ⟨e, .non, _, I.lset (its' := its.eraseIdx j) (t' := s.toks) (ys := strL (ns.erase k)) hH e ?_ ?_ ?_, rfl, q⟩
  · obtain ⟨tm, em⟩ := at_ j js
    rw [em, (List.getElem?_eq_some_iff.mp hj).2]
    exact beq_self_eq_true k
  · obtain ⟨tm, em⟩ := at_ m hm
    rw [em]
    refine beq_eq_false_iff_ne.mpr fun h => hno m lt ?_
    have hm' : m < ns.length := by omega
    rw [List.getElem?_eq_getElem hm', h]
  · show its.toArray.eraseIdxIfInBounds j = (its.eraseIdx j).toArray
    rw [List.eraseIdxIfInBounds_toArray]
  · have e1 : strL (ns.erase k) = (strL ns).eraseIdx j := by
      rw [hr]
      exact txt_erase ns j
    rw [e1]
    exact r.eraseIdx j
  · rw [strL_len]
    have := List.length_erase_le (a := k) (l := ns)
    omega
def rCntS (K : PySem.W.Frag) : V → List V → Hp → VK → Prop := fun x xs H Q => ∃ (p : Addr) (ns : List Str) (k : Str), x = .ref p ∧ xs = [.str k] ∧ SqL K H p (strL ns) ∧ Q (.int (ns.count k : Nat)) H
theorem mt_cntS : MtR X "list.count" (rCntS X.K) := by
  intro pins s σ H x xs v us Q I rx rxs ⟨p, ns, k, ex, exs, hs, q⟩
  subst ex exs
  cases rx
  obtain ⟨u, eu, t, et⟩ := rxs.one
  subst eu et
  obtain ⟨its, rv, ⟨⟨cls, dd, data, sl⟩, n, ho, hc, hdn, hd⟩, hlen⟩ := I.list hs
  simp only at hc hd
  subst hc hd
  have gv := txt_gives (k := k) (t := t) rv
  have cn : its.toArray.toList.countP (isTxt k) = ns.count k := txt_count rv
  refine call_meets PySem.F.slot_list_count ⟨_, ho, rfl⟩ PySem.F.entry_list_count (PySem.F.args_list_count_2 _ _)
    (SeqAt.list_countAt p its.toArray n dd sl (.str k t) (isTxt k)) ⟨ho, fun y hy => (gv y (by simpa using hy)).at _ _, .int (ns.count k : Nat), H, I.tok _, ⟨s.toks, ?_⟩, q⟩
  show Value.int ((its.toArray.toList.countP (isTxt k) : Nat) : Int) s.toks = _
  rw [cn]
end
section
variable {K : PySem.W.Frag} {H : Hp} {Q : VK} {l : Addr} {ns : List Str} {xs : List V} {k : Str} {i : Int} {y : V}
theorem r_remS (h : H l = some (.lst (strL ns))) (hk : k ∈ ns) (q : ∀ H', SB l H H' → H' l = some (.lst (strL (ns.erase k))) → Q .non H') : rRemS (.ref l) [.str k] H Q := ⟨l, ns, k, rfl, rfl, h, hk, q _ sb_upd upd_same⟩
theorem r_cntS (h : SqL K H l (strL ns)) (q : Q (.int (ns.count k : Nat)) H) : rCntS K (.ref l) [.str k] H Q := ⟨l, ns, k, rfl, rfl, h, q⟩
def rInsL : V → List V → Hp → VK → Prop := fun x vs H Q => ∃ (l : Addr) (xs : List V) (i : Int) (y : V), x = .ref l ∧ vs = [.int i, y] ∧ H l = some (.lst xs) ∧ xs.length < sizeLine ∧ 0 ≤ i ∧ i < 2 ^ 63 ∧ Q .non (upd H l (.lst (xs.take i.toNat ++ [y] ++ xs.drop i.toNat)))
theorem r_insL (h : H l = some (.lst xs)) (hz : xs.length < sizeLine) (h0 : 0 ≤ i) (h1 : i < 2 ^ 63) (q : ∀ H', SB l H H' → H' l = some (.lst (xs.take i.toNat ++ [y] ++ xs.drop i.toNat)) → Q .non H') : rInsL (.ref l) [.int i, y] H Q := ⟨l, xs, i, y, rfl, rfl, h, hz, h0, h1, q _ sb_upd upd_same⟩
end
theorem mt_insL {X : Cx} : MtR X "list.insert" rInsL := mt_insert
end CP

set_option Elab.async false
set_option linter.all false
set_option maxRecDepth 100000
set_option maxHeartbeats 4000000
set_option autoImplicit false
/-! what the functions of plain compute -/
namespace CP
open L2 PySem PyProof.Rows
theorem drop_succ {α : Type} {l : List α} {i : Nat} {x : α} (h : l[i]? = some x) : l.drop i = x :: l.drop (i + 1) := by
  obtain ⟨h1, h2⟩ := List.getElem?_eq_some_iff.mp h
  rw [List.drop_eq_getElem_cons h1, h2]
/-- a product taken out of another -/
def restOf : List Str → List Str → Option (List Str)
  | l, [] => some l
  | l, k :: o => if k ∈ l then restOf (l.erase k) o else none
theorem restOf_len : ∀ {o l m : List Str}, restOf l o = some m → m.length ≤ l.length
  | [], l, m, h => by cases h; exact Nat.le_refl _
  | k :: o, l, m, h => by
    unfold restOf at h
    split at h
    · exact Nat.le_trans (restOf_len h) List.length_erase_le
    · cases h
theorem restOf_mem : ∀ {o l m : List Str}, restOf l o = some m → ∀ x ∈ m, x ∈ l
  | [], l, m, h, x, hx => by cases h; exact hx
  | k :: o, l, m, h, x, hx => by
    unfold restOf at h
    split at h
    · exact List.mem_of_mem_erase (restOf_mem h x hx)
    · cases h
/-- the first side's step times its size divides the second one's step -/
def aheadB (r s : Sd) : Bool := (restOf s.2.2 (r.2.1 ++ r.2.2)).isSome
/-- the sides laid one by one in their order -/
def ordGo : List Sd → List Sd → List Sd ⊕ (Sd × Sd)
  | found, [] => .inl found
  | found, r :: rs => if r.2.1 = [] then ordGo found rs else
      match found.filter fun f => !aheadB f r && !aheadB r f with
      | w :: _ => .inr (w, r)
      | [] => ordGo (found.take (found.filter fun f => aheadB f r).length ++ [r] ++ found.drop (found.filter fun f => aheadB f r).length) rs
def orderM (rows : List Sd) : List Sd ⊕ (Sd × Sd) := ordGo [] rows
theorem ordGo_inl : ∀ {rs f fs : List Sd}, ordGo f rs = .inl fs → (∀ x ∈ fs, x ∈ f ∨ x ∈ rs) ∧ fs.length ≤ f.length + rs.length
  | [], f, fs, h => by cases h; exact ⟨fun x hx => .inl hx, by simp⟩
  | r :: rs, f, fs, h => by
    unfold ordGo at h
    split at h
    · obtain ⟨h1, h2⟩ := ordGo_inl h
      exact ⟨fun x hx => (h1 x hx).imp id (List.mem_cons_of_mem _), by rw [List.length_cons]; omega⟩
    · split at h
      · cases h
      · obtain ⟨h1, h2⟩ := ordGo_inl h
        refine ⟨fun x hx => ?_, ?_⟩
        · rcases h1 x hx with z | z
          · rcases List.mem_append.mp z with z | z
            · rcases List.mem_append.mp z with z | z
              · exact .inl (List.mem_of_mem_take z)
              · exact .inr (by rw [List.mem_singleton.mp z]; exact List.mem_cons_self ..)
            · exact .inl (List.mem_of_mem_drop z)
          · exact .inr (List.mem_cons_of_mem _ z)
        · rw [List.length_append, List.length_append, List.length_take, List.length_drop, List.length_singleton] at h2
          rw [List.length_cons]
          omega
theorem ordGo_inr : ∀ {rs f : List Sd} {u v : Sd}, ordGo f rs = .inr (u, v) → (u ∈ f ∨ u ∈ rs) ∧ v ∈ rs
  | [], f, u, v, h => by cases h
  | r :: rs, f, u, v, h => by
    unfold ordGo at h
    split at h
    · obtain ⟨h1, h2⟩ := ordGo_inr h
      exact ⟨h1.imp id (List.mem_cons_of_mem _), List.mem_cons_of_mem _ h2⟩
    · split at h
      · rename_i w ws e
        cases h
        have : u ∈ f.filter fun f => !aheadB f r && !aheadB r f := by rw [e]; exact List.mem_cons_self ..
        exact ⟨.inl (List.mem_filter.mp this).1, List.mem_cons_self ..⟩
      · obtain ⟨h1, h2⟩ := ordGo_inr h
        refine ⟨?_, List.mem_cons_of_mem _ h2⟩
        rcases h1 with z | z
        · rcases List.mem_append.mp z with z | z
          · rcases List.mem_append.mp z with z | z
            · exact .inl (List.mem_of_mem_take z)
            · exact .inr (by rw [List.mem_singleton.mp z]; exact List.mem_cons_self ..)
          · exact .inl (List.mem_of_mem_drop z)
        · exact .inr (List.mem_cons_of_mem _ z)
theorem order_inl {rows fs : List Sd} (h : orderM rows = .inl fs) : (∀ x ∈ fs, x ∈ rows) ∧ fs.length ≤ rows.length := by
  obtain ⟨h1, h2⟩ := ordGo_inl h
  exact ⟨fun x hx => (h1 x hx).resolve_left (fun z => nomatch z), by simpa using h2⟩
theorem order_inr {rows : List Sd} {u v : Sd} (h : orderM rows = .inr (u, v)) : u ∈ rows ∧ v ∈ rows := by
  obtain ⟨h1, h2⟩ := ordGo_inr h
  exact ⟨h1.resolve_left (fun z => nomatch z), h2⟩
theorem filter_opt {α : Type} (p : α → Bool) (l : List α) : (l.map fun r => if p r = true then some r else none).filterMap id = l.filter p := by
  induction l with
  | nil => rfl
  | cons a l ih =>
    rw [List.map_cons, List.filter_cons]
    cases e : p a with
    | true => simp only [if_true, List.filterMap_cons, id_eq]; rw [ih]
    | false => simp only [Bool.false_eq_true, if_false, List.filterMap_cons, id_eq]; exact ih
theorem SideAt.hid {D : Addr} {H1 H : Hp} {v : V} {r : Sd} (h : SideAt H1 v r) (hD : H1 D = none) (s : Same H1 H) : SideAt (hide D H) v r := by
  have := hide_mono (D := D) s
  rw [hide_none hD] at this
  exact h.mono this
section
variable {K : PySem.W.Frag} {a : Addr} {g : TG} {tt : TT} {te : TE} {vs : List Nat} {σ : L2.St} {H1 : Hp} {D : Addr} {Qd : Hp → Prop}
/-- a comprehension over sides that leaves some out -/
theorem lc_sdF {xs : List V} {fs : List Sd} (p : Sd → Bool) (pr : Paired (SideAt H1) xs fs) (hD : H1 D = none) (ha : SqL K H1 a xs) (hz : fs.length < sizeLine)
    (hs : ∀ (i : Nat) (x : V) (r : Sd) (H : Hp) (N : Hp → Prop), xs[i]? = some x → fs[i]? = some r → SideAt H x r → Same H1 H → (∀ H', p r = false → Same H H' → N H') → (∀ H', p r = true → Same H H' → ∃ acc, H' D = some (.lst acc) ∧ acc.length < sizeLine ∧ N (upd H' D (.lst (acc ++ [x])))) →
      g x (wipe σ vs) H fun σ2 H2 => wipe σ2 vs = wipe σ vs ∧ tt σ2 H2 fun b H3 => if b = true then te σ2 H3 fun y H4 => ∃ acc, H4 D = some (.lst acc) ∧ acc.length < sizeLine ∧ N (upd H4 D (.lst (acc ++ [y]))) else N H3)
    (hd : ∀ H acc, Same H1 H → H D = some (.lst acc) → Paired (SideAt H) acc (fs.filter p) → Qd H) :
    ∃ W : Nat → Nat → Hp → Prop, (∃ m, W 0 m (upd H1 D (.lst []))) ∧ ∀ i m H, W i m H →
      ((Itl K a).stop i H ∧ Qd H) ∨ ((Itl K a).go i H ∧ ∃ Nx : Hp → Prop, (∀ H', Nx H' → ∃ m', m' < m ∧ W (i + 1) m' H') ∧ ∀ x H', (Itl K a).yld i H x H' → g x (wipe σ vs) H' fun σ2 H2 => wipe σ2 vs = wipe σ vs ∧ tt σ2 H2 fun b H3 =>
        if b = true then te σ2 H3 fun y H4 => ∃ acc, H4 D = some (.lst acc) ∧ acc.length < sizeLine ∧ Nx (upd H4 D (.lst (acc ++ [y]))) else Nx H3) := by
  refine lc_tell (β := Sd) SideAt (fs.map fun r => if p r = true then some r else none) hD ha (by rw [List.length_map]; exact pd_len pr) (by rw [List.length_map]; exact hz) (fun _ _ _ _ s z => SideAt.mono z s) (fun i x o H hx ho s1 _ N no yes => ?_) fun H acc s1 hacc pp => ?_
  · obtain ⟨r, hr, sr⟩ := pd_get pr hx
    have e : o = if p r = true then some r else none := by
      rw [List.getElem?_map, hr] at ho
      exact (Option.some.inj ho).symm
    subst e
    refine hs i x r H N hx hr (sr.mono s1) s1 (fun H' h s2 => no H' (by rw [h]; rfl) s2) fun H' h s2 => yes H' x r (by rw [h]; rfl) s2 (sr.hid hD (s1.trans s2))
  · rw [filter_opt] at pp
    exact hd H acc s1 hacc pp
end
theorem pd_take {α β : Type} {R : α → β → Prop} {xs : List α} {ys : List β} (h : Paired R xs ys) : ∀ n, Paired R (xs.take n) (ys.take n) := by
  induction h with
  | nil => intro n; rw [List.take_nil, List.take_nil]; exact .nil
  | cons h _ ih =>
    intro n
    cases n with
    | zero => exact .nil
    | succ n => exact .cons h (ih n)
theorem pd_drop {α β : Type} {R : α → β → Prop} {xs : List α} {ys : List β} (h : Paired R xs ys) : ∀ n, Paired R (xs.drop n) (ys.drop n) := by
  induction h with
  | nil => intro n; rw [List.drop_nil, List.drop_nil]; exact .nil
  | cons h t ih =>
    intro n
    cases n with
    | zero => exact .cons h t
    | succ n => exact ih n
theorem sides_dp {K : PySem.W.Frag} {H : Hp} {vs : List V} {fs : List Sd} (pr : Paired (SideAt H) vs fs) (h : ∀ f ∈ fs, letB f.1 = true ∧ Lets f.2.1 ∧ Lets f.2.2) : ∃ ds, DpAll K H vs ds ∧ PyData.canLayAll0 ds = true ∧ PyData.depthAll ds ≤ 60 := by
  have l := rows_lay (rows := fs) fun r hr => side_lay (let_lay (h r hr).1) (h r hr).2.1.lay (h r hr).2.2.lay
  exact ⟨_, rows_dp pr, l.1, Nat.le_trans l.2 (by decide)⟩
/-- the cell with one index alone -/
def loneM (rows : List Sd) (z : Str) (n : Int) : List Int := rows.map fun r => if r.1 = z then n else 0
/-- a letter that stands oftener in the first -/
def moreM (l o : List Str) : Option Str := l.find? fun k => decide (o.count k < l.count k)
def sharedGo : List Str → List Str → List Str
  | [], _ => []
  | k :: l, o => if k ∈ o then k :: sharedGo l (o.erase k) else sharedGo l o
def sharedM (l o : List Str) : List Str := sharedGo l o
def prodF (f : Str → Int) (l : List Str) : Int := l.foldl (fun a k => a * f k) 1
theorem prodF_app {f : Str → Int} {l : List Str} {k : Str} : prodF f (l ++ [k]) = prodF f l * f k := by
  unfold prodF
  rw [List.foldl_append]
  rfl
theorem foldl_pos {f : Str → Int} : ∀ {l : List Str} {a : Int}, 0 ≤ a → (∀ x ∈ l, 0 ≤ f x) → 0 ≤ l.foldl (fun a k => a * f k) a
  | [], a, h, _ => h
  | k :: l, a, h, hf => foldl_pos (l := l) (Int.mul_nonneg h (hf k (List.mem_cons_self ..))) fun x hx => hf x (List.mem_cons_of_mem _ hx)
theorem prodF_pos {f : Str → Int} {l : List Str} (h : ∀ x ∈ l, 0 ≤ f x) : 0 ≤ prodF f l := foldl_pos (by decide) h
theorem pd_rev {α β : Type} {R : α → β → Prop} {xs : List α} {ys : List β} (h : Paired R xs ys) : Paired R xs.reverse ys.reverse := by
  induction h with
  | nil => exact .nil
  | cons h _ ih => rw [List.reverse_cons, List.reverse_cons]; exact pd_app ih (pd_one h)
end CP

set_option Elab.async false
set_option linter.all false
set_option maxRecDepth 100000
set_option maxHeartbeats 4000000
set_option autoImplicit false
/-! dict comprehensions stored in a local name; over a list of texts -/
namespace CP
open L2 PySem PyProof.Rows
section
variable {X : Cx}
theorem ps_setDc {i : Nat} {nm : Str} {py : Pos} {kx vx tg iter : Expr} {ifs : List Expr} {scope : Scope} {own : List (Str × Nat)} {pos spos : Pos} {wi : TI} {g : TG} {tt : TT} {tk tv : TE} (calm : X.calm = true) (nd : X.N.Nodup) (hi : X.N[i]? = some nm) (hloc : X.env.scope.names.lookup nm = some .local)
    (sw : swapsWith (.DictComp kx vx [⟨tg, iter, ifs, 0⟩] scope pos) (some (.Name nm py)) spos.line X.env = pure true) (it : PI X tg iter wi) (blk : BlkOk X.N X.env.scope scope own)
    (dg : ∀ (s : Shared) (H : Hp) (C : Addr) (cl : List (Str × Addr)) (fp : List Addr), PG (X.blk s H scope (compEnvC scope cl C X.env) fp) tg g) (dt : ∀ (s : Shared) (H : Hp) (C : Addr) (cl : List (Str × Addr)) (fp : List Addr), PTs (X.blk s H scope (compEnvC scope cl C X.env) fp) ifs tt)
    (dk : ∀ (s : Shared) (H : Hp) (C : Addr) (cl : List (Str × Addr)) (fp : List Addr), PE (X.blk s H scope (compEnvC scope cl C X.env) fp) kx tk)
    (dv : ∀ (s : Shared) (H : Hp) (C : Addr) (cl : List (Str × Addr)) (fp : List Addr), PE (X.blk s H scope (compEnvC scope cl C X.env) fp) vx tv) (fold : ∀ x, foldedSetIterable iter X.env x = pure x := by intro _; rfl) :
    PS X (.Assign [.Name nm py] (.DictComp kx vx [⟨tg, iter, ifs, 0⟩] scope pos) spos) (tAsg (tDc wi g tt tk tv (own.map (·.2))) (gName i)) := by
  constructor
  intro pins s σ H En I h
  rw [exec_Assign_Name_used (hs := sw)]
  refine wpAny_bind (wpAny_standAt ?_)
  have h : tDc wi g tt tk tv (own.map (·.2)) σ H (fun x H1 => gName i x σ H1 En.nx) := h
  refine wpAny_bind ?_
  show wpAny _ X.A (do let _ ← comprehension (.DictComp kx vx [⟨tg, iter, ifs, 0⟩] scope pos) scope X.env (firstIterPos [⟨tg, iter, ifs, 0⟩] pos) newDict false (eval iter X.env) (some (assign (.Name nm py) X.env))) _ _ s
  refine wpAny_bind (thn (dc_core (Qf := fun _ s' => SP X pins En .next s') calm nd I it blk dg dt dk dv fold h ?_) fun _ s' z => wpAny_pure (wpAny_pure z))
  intro D C s' m H' J q ns fo
  obtain ⟨p0, p1, p2, p3, p4, p5⟩ := fo
  refine wpAny_assign_Name (store_ok2 (v := V.ref D) J nd hi (.inl hloc) rfl (fun s2 J2 ⟨a, sb, ha⟩ => ?_) (.inr hloc))
  have ca : C ≠ a := ha.elim (fun z => z ▸ p1) fun z e => p4 nm a z e.symm
  exact ⟨m, ns.sameBut sb ca, fun h3 sb3 => ⟨_, H', J2.turned (t' := s2.toks) (fun b o hb e => (sb3.2 b hb).trans e) p0 p1 p3 p4 p5, q⟩⟩
theorem swd_true {kx vx : Expr} {gs : List Comprehension} {scope : Scope} {pos py : Pos} {nm : Str} {l : Nat} {env : Env} (hf : env.scope.kind = .function) (hn : env.scope.names.lookup nm = some .local) (hl : (py.line == pos.line) = true)
    (no : (scope.names.any fun (n, k) => n == nm && (k == .local || k == .cell)) = false) : swapsWith (.DictComp kx vx gs scope pos) (some (.Name nm py)) l env = pure true := by
  have e1 : env.kindOf nm = some .local := hn
  have e2 : env.blockKind = .function := by
    unfold Env.blockKind
    rw [hf]
    rfl
  simp only [swapsWith, e2, e1, no, Expr.pos, hl]
  rfl
end
/-- a dict of numbers by letters -/
def dV (l : List (Str × Int)) : List (Key × V) := l.map fun p => (Sum.inr p.1, V.int p.2)
section
variable {K : PySem.W.Frag} {a : Addr} {g : TG} {tt : TT} {tk tv : TE} {vs : List Nat} {σ : L2.St} {H1 : Hp} {D : Addr} {Qd : Hp → Prop} {xs : List V}
theorem dc_list (Pv : Nat → Hp → Prop) (start : Pv 0 (upd H1 D (.dK []))) (stay : ∀ i H, i ≤ xs.length → Pv i H → SqL K H a xs)
    (step : ∀ i x H, xs[i]? = some x → Pv i H → g x (wipe σ vs) H fun σ2 H2 => wipe σ2 vs = wipe σ vs ∧ tt σ2 H2 fun b H3 =>
      if b = true then tk σ2 H3 fun y H4 => tv σ2 H4 fun z H5 => ∃ kvs k, y = kV k ∧ H5 D = some (.dK kvs) ∧ kvs.length < sizeLine ∧ Pv (i + 1) (upd H5 D (.dK (putK kvs k z))) else Pv (i + 1) H3) (fin : ∀ H, Pv xs.length H → Qd H) :
    ∃ W : Nat → Nat → Hp → Prop, (∃ m, W 0 m (upd H1 D (.dK []))) ∧ ∀ i m H, W i m H →
      ((Itl K a).stop i H ∧ Qd H) ∨ ((Itl K a).go i H ∧ ∃ Nx : Hp → Prop, (∀ H', Nx H' → ∃ m', m' < m ∧ W (i + 1) m' H') ∧ ∀ x H', (Itl K a).yld i H x H' → g x (wipe σ vs) H' fun σ2 H2 => wipe σ2 vs = wipe σ vs ∧ tt σ2 H2 fun b H3 =>
        if b = true then tk σ2 H3 fun y H4 => tv σ2 H4 fun z H5 => ∃ kvs k, y = kV k ∧ H5 D = some (.dK kvs) ∧ kvs.length < sizeLine ∧ Nx (upd H5 D (.dK (putK kvs k z))) else Nx H3) := by
  refine ⟨fun i m H => m = xs.length - i ∧ i ≤ xs.length ∧ Pv i H, ⟨_, rfl, Nat.zero_le _, start⟩, fun i m H ⟨em, hi, p⟩ => ?_⟩
  subst em
  have q := stay i H hi p
  rcases Nat.lt_or_ge i xs.length with lt | ge
  · refine .inr ⟨⟨xs, xs[i], q, List.getElem?_eq_getElem lt⟩, Pv (i + 1), fun H' p' => ⟨xs.length - (i + 1), by omega, rfl, lt, p'⟩, fun x H' y => ?_⟩
    obtain ⟨eH, hx⟩ := y
    cases eH
    exact step i x H (hx xs q) p
  · have e : i = xs.length := by omega
    subst e
    exact .inl ⟨⟨xs, q, (Nat.le_refl _ : xs.length ≤ xs.length)⟩, fin H p⟩
end
/-- a value laid under a letter -/
def setD : List (Str × Int) → Str → Int → List (Str × Int)
  | [], k, n => [(k, n)]
  | p :: l, k, n => if p.1 = k then (k, n) :: l else p :: setD l k n
def getD : List (Str × Int) → Str → Option Int
  | [], _ => none
  | p :: l, k => if p.1 = k then some p.2 else getD l k
theorem dV_val : ∀ (l : List (Str × Int)) (k : Str), valV (dV l) (Sum.inr k) = (getD l k).map V.int
  | [], k => rfl
  | p :: l, k => by
    show valV ((Sum.inr p.1, V.int p.2) :: dV l) (Sum.inr k) = _
    unfold getD
    by_cases e : p.1 = k
    · rw [valV_pos (by rw [e]), if_pos e]; rfl
    · rw [valV_neg (fun z => e (by injection z)), if_neg e]; exact dV_val l k
theorem setD_keys : ∀ {l : List (Str × Int)} {k : Str} {n : Int}, k ∈ l.map (·.1) → (setD l k n).map (·.1) = l.map (·.1)
  | [], k, n, h => nomatch h
  | p :: l, k, n, h => by
    unfold setD
    by_cases e : p.1 = k
    · rw [if_pos e, List.map_cons, List.map_cons, e]
    · rw [if_neg e, List.map_cons, List.map_cons, setD_keys ((List.mem_cons.mp h).resolve_left (Ne.symm e))]
theorem setD_new : ∀ {l : List (Str × Int)} {k : Str} {n : Int}, k ∉ l.map (·.1) → setD l k n = l ++ [(k, n)]
  | [], k, n, h => rfl
  | p :: l, k, n, h => by
    unfold setD
    rw [if_neg (fun e => h (by rw [List.map_cons, e]; exact List.mem_cons_self ..)), setD_new (l := l) (fun z => h (List.mem_cons_of_mem _ z))]
    rfl
theorem setD_len (l : List (Str × Int)) (k : Str) (n : Int) : (setD l k n).length ≤ l.length + 1 := by
  induction l with
  | nil => exact Nat.le_refl _
  | cons p l ih =>
    unfold setD
    split
    · rw [List.length_cons, List.length_cons]; omega
    · rw [List.length_cons, List.length_cons]; omega
theorem getD_setD : ∀ (l : List (Str × Int)) (k j : Str) (n : Int), getD (setD l k n) j = if k = j then some n else getD l j
  | [], k, j, n => rfl
  | p :: l, k, j, n => by
    unfold setD
    by_cases e : p.1 = k
    · rw [if_pos e]
      unfold getD
      by_cases f : k = j
      · rw [if_pos f, if_pos f]
      · rw [if_neg f, if_neg f, if_neg (by rw [e]; exact f)]
    · rw [if_neg e]
      unfold getD
      by_cases f : p.1 = j
      · rw [if_pos f, if_pos f, if_neg (by rw [← f]; exact Ne.symm e)]
      · rw [if_neg f, if_neg f, getD_setD l k j n]
theorem dV_any (l : List (Str × Int)) (k : Str) : ((dV l).any fun kv => decide (kv.1 = (Sum.inr k : Key))) = decide (k ∈ l.map (·.1)) := by
  unfold dV
  rw [List.any_map]
  induction l with
  | nil => rfl
  | cons p l ih =>
    rw [List.any_cons, ih]
    show (decide ((Sum.inr p.1 : Key) = Sum.inr k) || _) = _
    by_cases e : p.1 = k
    · subst e; simp
    · have : ¬ ((Sum.inr p.1 : Key) = Sum.inr k) := fun z => e (by injection z)
      rw [decide_eq_false this]
      simp [Ne.symm e]
theorem dV_put (l : List (Str × Int)) (k : Str) (n : Int) (nd : (l.map (·.1)).Nodup) : putK (dV l) (Sum.inr k) (.int n) = dV (setD l k n) := by
  unfold putK
  rw [dV_any]
  by_cases h : k ∈ l.map (·.1)
  · rw [if_pos (decide_eq_true h)]
    induction l with
    | nil => cases h
    | cons p l ih =>
      unfold setD
      by_cases e : p.1 = k
      · rw [if_pos e]
        have nk : ∀ q ∈ l, q.1 ≠ k := fun q hq z => (List.pairwise_cons.mp nd).1 q.1 (List.mem_map.mpr ⟨q, hq, rfl⟩) (e.trans z.symm)
        subst e
        show _ :: _ = _ :: _
        congr 1
        · simp
        · clear ih h nd
          induction l with
          | nil => rfl
          | cons q l ih2 =>
            have i2 := ih2 fun q hq => nk q (List.mem_cons_of_mem _ hq)
            have n2 : ¬ ((Sum.inr q.1 : Key) = Sum.inr p.1) := fun z => nk q (List.mem_cons_self ..) (by injection z)
            show _ :: _ = _ :: _
            congr 1
            exact if_neg n2
      · rw [if_neg e]
        have n2 : ¬ ((Sum.inr p.1 : Key) = Sum.inr k) := fun z => e (by injection z)
        show _ :: _ = _ :: _
        congr 1
        · exact if_neg n2
        · exact ih (List.pairwise_cons.mp nd).2 ((List.mem_cons.mp h).resolve_left (Ne.symm e))
  · rw [if_neg (by simpa using h), setD_new h]
    unfold dV
    rw [List.map_append]
    rfl
theorem r_dc {wi : TI} {g : TG} {tt : TT} {tk tv : TE} {vs : List Nat} {σ : L2.St} {H : Hp} {Q : VK} (q : wi σ H fun J H1 => ∀ D, H1 D = none → ∃ W : Nat → Nat → Hp → Prop, (∃ m, W 0 m (upd H1 D (.dK []))) ∧ ∀ i m H, W i m H →
  (J.stop i H ∧ Q (.ref D) H) ∨ (J.go i H ∧ ∃ Nx : Hp → Prop, (∀ H', Nx H' → ∃ m', m' < m ∧ W (i + 1) m' H') ∧ ∀ x H', J.yld i H x H' → g x (wipe σ vs) H' fun σ2 H2 => wipe σ2 vs = wipe σ vs ∧ tt σ2 H2 fun b H3 =>
    if b = true then tk σ2 H3 fun y H4 => tv σ2 H4 fun z H5 => ∃ kvs k, y = kV k ∧ H5 D = some (.dK kvs) ∧ kvs.length < sizeLine ∧ Nx (upd H5 D (.dK (putK kvs k z))) else Nx H3)) : tDc wi g tt tk tv vs σ H Q := q
/-- values of 2 for all letters -/
def allTwo (l : List Str) : List (Str × Int) := l.map fun k => (k, 2)
theorem allTwo_keys (l : List Str) : (allTwo l).map (·.1) = l := by
  unfold allTwo
  rw [List.map_map]
  exact List.map_id l
theorem allTwo_get {l : List Str} {k : Str} (h : k ∈ l) : getD (allTwo l) k = some 2 := by
  unfold allTwo
  induction l with
  | nil => cases h
  | cons a l ih =>
    show (if a = k then some 2 else getD _ k) = some 2
    by_cases e : a = k
    · rw [if_pos e]
    · rw [if_neg e]; exact ih ((List.mem_cons.mp h).resolve_left (Ne.symm e))
theorem allTwo_succ {l : List Str} {i : Nat} {k : Str} (h : l[i]? = some k) (nd : l.Nodup) : putK (dV (allTwo (l.take i))) (Sum.inr k) (.int 2) = dV (allTwo (l.take (i + 1))) := by
  have nk : k ∉ l.take i := fun z => by
    rw [← List.take_append_drop (i + 1) l, take_succ h] at nd
    have := (List.nodup_append.mp (List.nodup_append.mp nd).1).2.2 k z k (List.mem_singleton.mpr rfl)
    exact this rfl
  rw [dV_put _ _ _ (by rw [allTwo_keys]; exact nd.sublist (List.take_sublist ..)), setD_new (by rw [allTwo_keys]; exact nk), take_succ h]
  unfold allTwo
  rw [List.map_append]
  rfl
theorem prod_two (l : List Str) : prodF (fun _ => 2) l = 2 ^ l.length := by
  unfold prodF
  suffices ∀ (l : List Str) (a : Int), l.foldl (fun a _ => a * 2) a = a * 2 ^ l.length by rw [this, Int.one_mul]
  intro l
  induction l with
  | nil => intro a; show a = a * 2 ^ 0; rw [Int.pow_zero, Int.mul_one]
  | cons k l ih =>
    intro a
    rw [List.foldl_cons, ih, List.length_cons, Int.pow_succ, Int.mul_assoc, Int.mul_comm 2]
/-- the first gap -/
def holeGo (szs : List Str) : List Str → List Sd → Option (List (Str × Int) × Int)
  | _, [] => none
  | due, r :: fs => if r.2.2 = due then holeGo szs (srt (r.2.1 ++ r.2.2)) fs else some (allTwo szs, prodF (fun _ => 2) due)
def holeM (szs : List Str) (fs : List Sd) : Option (List (Str × Int) × Int) := holeGo szs [] fs
theorem mem_sizes {rows : List Sd} {r : Sd} (h : r ∈ rows) {x : Str} (hx : x ∈ r.2.1 ++ r.2.2) : x ∈ sizesM rows := by
  unfold sizesM
  rw [mem_sset]
  exact List.mem_flatMap.mpr ⟨r, h, hx⟩
theorem sizes_nd (rows : List Sd) : (sizesM rows).Nodup := sset_nodup _
theorem sizes_len {rows : List Sd} (h : Rows rows) : (sizesM rows).length ≤ 1200 := by
  refine Nat.le_trans (sset_len _) ?_
  have few := h.few
  suffices ∀ l : List Sd, (∀ r ∈ l, r ∈ rows) → (l.flatMap fun r => r.2.1 ++ r.2.2).length ≤ 60 * l.length by
    have := this rows fun _ h => h
    omega
  intro l
  induction l with
  | nil => intro _; exact Nat.le_refl _
  | cons r l ih =>
    intro hl
    have := ih fun x hx => hl x (List.mem_cons_of_mem _ hx)
    have a := (h.size r (hl r (List.mem_cons_self ..))).2
    have b := (h.step r (hl r (List.mem_cons_self ..))).2
    rw [List.flatMap_cons, List.length_append, List.length_append, List.length_cons]
    omega
theorem sizes_let {rows : List Sd} (h : Rows rows) : ∀ x ∈ sizesM rows, letB x = true := fun x hx => by
  unfold sizesM at hx
  rw [mem_sset] at hx
  obtain ⟨r, hr, hx⟩ := List.mem_flatMap.mp hx
  rcases List.mem_append.mp hx with z | z
  · exact (h.size r hr).1 x z
  · exact (h.step r hr).1 x z
section
variable {σ : L2.St} {H : Hp} {D : Ends} {tas : TA} {i j l : Nat}
theorem r_par3 (q : tas σ H fun vs H1 => ∃ u v w, vs = [u, v, w] ∧ D.nx (((σ.set i (some u)).set j (some v)).set l (some w)) H1) : tPar3 i j l tas D σ H := q
theorem r_three {u v w : V} {P : V → V → V → Prop} (q : P u v w) : ∃ x y z, [u, v, w] = [x, y, z] ∧ P x y z := ⟨u, v, w, rfl, q⟩
end
end CP

set_option Elab.async false
set_option linter.all false
set_option maxRecDepth 100000
set_option maxHeartbeats 4000000
set_option autoImplicit false
/-! two cells with the same place -/
namespace CP
open L2 PySem PyProof.Rows
theorem restOf_count : ∀ {o l m : List Str}, restOf l o = some m → ∀ x, l.count x = m.count x + o.count x
  | [], l, m, h, x => by cases h; simp
  | k :: o, l, m, h, x => by
    unfold restOf at h
    split at h
    · rename_i hk
      have ih := restOf_count h x
      rw [List.count_erase] at ih
      rw [List.count_cons]
      by_cases e : k = x
      · subst e
        have := List.count_pos_iff.mpr hk
        simp only [beq_self_eq_true, if_true] at ih ⊢
        omega
      · have e1 : (k == x) = false := beq_eq_false_iff_ne.mpr e
        have e2 : (x == k) = false := beq_eq_false_iff_ne.mpr (Ne.symm e)
        simp only [e1, e2, Bool.false_eq_true, if_false] at ih ⊢
        omega
    · cases h
theorem restOf_some : ∀ {o l : List Str}, (∀ x, o.count x ≤ l.count x) → ∃ m, restOf l o = some m
  | [], l, h => ⟨l, rfl⟩
  | k :: o, l, h => by
    have hk : k ∈ l := List.count_pos_iff.mp (by have := h k; rw [List.count_cons_self] at this; omega)
    unfold restOf
    rw [if_pos hk]
    refine restOf_some fun x => ?_
    have := h x
    rw [List.count_cons] at this
    rw [List.count_erase]
    by_cases e : k = x
    · subst e
      simp only [beq_self_eq_true, if_true] at this ⊢
      omega
    · have e1 : (k == x) = false := beq_eq_false_iff_ne.mpr e
      have e2 : (x == k) = false := beq_eq_false_iff_ne.mpr (Ne.symm e)
      simp only [e1, e2, Bool.false_eq_true, if_false] at this ⊢
      omega
theorem restOf_none {o l : List Str} (h : restOf l o = none) : ∃ x, l.count x < o.count x := by
  refine Classical.byContradiction fun n => ?_
  obtain ⟨m, hm⟩ := restOf_some (o := o) (l := l) fun x => Nat.le_of_not_lt fun z => n ⟨x, z⟩
  rw [h] at hm
  cases hm
theorem shared_count : ∀ (l o : List Str) (x : Str), (sharedGo l o).count x = min (l.count x) (o.count x)
  | [], o, x => by simp [sharedGo]
  | k :: l, o, x => by
    unfold sharedGo
    rw [List.count_cons]
    by_cases hk : k ∈ o
    · rw [if_pos hk, List.count_cons, shared_count l _ x, List.count_erase]
      by_cases e : k = x
      · subst e
        have := List.count_pos_iff.mpr hk
        simp only [beq_self_eq_true, if_true]
        omega
      · have e1 : (k == x) = false := beq_eq_false_iff_ne.mpr e
        have e2 : (x == k) = false := beq_eq_false_iff_ne.mpr (Ne.symm e)
        simp only [e1, e2, Bool.false_eq_true, if_false]
        omega
    · rw [if_neg hk, shared_count l o x]
      by_cases e : k = x
      · subst e
        rw [List.count_eq_zero.mpr hk]
        omega
      · have e1 : (k == x) = false := beq_eq_false_iff_ne.mpr e
        simp only [e1, Bool.false_eq_true, if_false]
        omega
theorem shared_len : ∀ (l o : List Str), (sharedGo l o).length ≤ l.length
  | [], o => Nat.le_refl _
  | k :: l, o => by
    unfold sharedGo
    split
    · rw [List.length_cons, List.length_cons]; have := shared_len l (o.erase k); omega
    · rw [List.length_cons]; have := shared_len l o; omega
theorem shared_rest (l o : List Str) : (∃ m, restOf l (sharedM l o) = some m) ∧ ∃ m, restOf o (sharedM l o) = some m :=
  ⟨restOf_some fun x => by unfold sharedM; rw [shared_count]; omega, restOf_some fun x => by unfold sharedM; rw [shared_count]; omega⟩
/-- neither is ahead of the other -/
theorem ordGo_apart : ∀ {rs f : List Sd} {u v : Sd}, ordGo f rs = .inr (u, v) → aheadB u v = false ∧ aheadB v u = false
  | [], f, u, v, h => by cases h
  | r :: rs, f, u, v, h => by
    unfold ordGo at h
    split at h
    · exact ordGo_apart h
    · split at h
      · rename_i w ws e
        cases h
        have : u ∈ f.filter fun f => !aheadB f r && !aheadB r f := by rw [e]; exact List.mem_cons_self ..
        have := (List.mem_filter.mp this).2
        rw [Bool.and_eq_true, Bool.not_eq_true', Bool.not_eq_true'] at this
        exact this
      · exact ordGo_apart h
/-- where one step divides the other: a letter that stands oftener in the size -/
theorem more_some {l o s : List Str} (h : restOf o (s ++ l) = none) {m : List Str} (h1 : restOf l (sharedM l o) = some []) (h2 : restOf o (sharedM l o) = some m) : ∃ k, moreM s m = some k := by
  obtain ⟨x, hx⟩ := restOf_none h
  have c1 := restOf_count h1 x
  have c2 := restOf_count h2 x
  rw [List.count_append] at hx
  have hm : m.count x < s.count x := by
    rw [List.count_nil] at c1
    omega
  cases e : moreM s m with
  | some k => exact ⟨k, rfl⟩
  | none =>
    have := List.find?_eq_none.mp e x (List.count_pos_iff.mp (by omega))
    rw [decide_eq_true hm] at this
    exact absurd rfl this
theorem shared_swap_count (l o : List Str) (x : Str) : (sharedM l o).count x = (sharedM o l).count x := by
  unfold sharedM
  rw [shared_count, shared_count, Nat.min_comm]
/-- the same with the two exchanged -/
theorem more_some' {l o s : List Str} (h : restOf l (s ++ o) = none) {m : List Str} (h1 : restOf o (sharedM l o) = some []) (h2 : restOf l (sharedM l o) = some m) : ∃ k, moreM s m = some k := by
  obtain ⟨x, hx⟩ := restOf_none h
  have c1 := restOf_count h1 x
  have c2 := restOf_count h2 x
  rw [List.count_append] at hx
  have hm : m.count x < s.count x := by
    rw [List.count_nil] at c1
    omega
  cases e : moreM s m with
  | some k => exact ⟨k, rfl⟩
  | none =>
    have := List.find?_eq_none.mp e x (List.count_pos_iff.mp (by omega))
    rw [decide_eq_true hm] at this
    exact absurd rfl this
theorem more_prop {s m : List Str} {k : Str} (h : moreM s m = some k) : k ∈ s ∧ m.count k < s.count k :=
  ⟨List.mem_of_find?_eq_some h, of_decide_eq_true (by simpa using List.find?_some h)⟩
/-- the value of a letter -/
def atD (v : List (Str × Int)) (k : Str) : Int := (getD v k).getD 0
/-- the letter's value is doubled until the size is greater -/
def grow (one second : List Str) (name : Str) : Nat → List (Str × Int) → List (Str × Int)
  | 0, v => v
  | n + 1, v => if prodF (atD v) one ≤ prodF (atD v) second then grow one second name n (setD v name (atD v name * 2)) else v
def setAll (v : List (Str × Int)) (ks : List Str) (n : Int) : List (Str × Int) := ks.foldl (fun v k => setD v k n) v
def clash2 (rows : List Sd) (vals : List (Str × Int)) (one other : Sd) (second : List Str) : Option (List (Str × Int) × List Int × List Int) :=
  match moreM one.2.1 second with
  | none => none
  | some name => some (grow one.2.1 second name 100 vals, loneM rows one.1 (prodF (atD (grow one.2.1 second name 100 vals)) second), loneM rows other.1 1)
def clashM (rows : List Sd) : Option (List (Str × Int) × List Int × List Int) :=
  match orderM rows with
  | .inl _ => none
  | .inr (one, other) =>
    match restOf one.2.2 (sharedM one.2.2 other.2.2), restOf other.2.2 (sharedM one.2.2 other.2.2) with
    | some first, some second =>
      if first ≠ [] then
        if second ≠ [] then some (setAll (setAll (allTwo (sizesM rows)) first (2 ^ second.length)) second (2 ^ first.length), loneM rows one.1 1, loneM rows other.1 1)
        else clash2 rows (allTwo (sizesM rows)) other one first
      else clash2 rows (allTwo (sizesM rows)) one other second
    | _, _ => none
theorem setAll_keys {v : List (Str × Int)} {n : Int} : ∀ {ks : List Str}, (∀ k ∈ ks, k ∈ v.map (·.1)) → (setAll v ks n).map (·.1) = v.map (·.1) := by
  intro ks
  unfold setAll
  induction ks generalizing v with
  | nil => intro _; rfl
  | cons k ks ih =>
    intro h
    have e := setD_keys (n := n) (h k (List.mem_cons_self ..))
    rw [List.foldl_cons, ih (fun x hx => by rw [e]; exact h x (List.mem_cons_of_mem _ hx)), e]
theorem setAll_succ {v : List (Str × Int)} {ks : List Str} {k : Str} {n : Int} : setAll v (ks ++ [k]) n = setD (setAll v ks n) k n := by
  unfold setAll
  rw [List.foldl_append]
  rfl
theorem foldl_mul {f : Str → Int} : ∀ {l : List Str} {a : Int}, l.foldl (fun a k => a * f k) a = a * prodF f l
  | [], a => by unfold prodF; rw [List.foldl_nil, List.foldl_nil, Int.mul_one]
  | k :: l, a => by
    unfold prodF
    rw [List.foldl_cons, List.foldl_cons, foldl_mul, foldl_mul, Int.one_mul, Int.mul_assoc]
theorem prodF_cons {f : Str → Int} {k : Str} {l : List Str} : prodF f (k :: l) = f k * prodF f l := by
  show (k :: l).foldl (fun a k => a * f k) 1 = _
  rw [List.foldl_cons, foldl_mul, Int.one_mul]
/-- behind i doublings -/
def Grown (szs : List Str) (name : Str) (i : Nat) (v : List (Str × Int)) : Prop := v.map (·.1) = szs ∧ ∀ k ∈ szs, getD v k = some (if k = name then 2 ^ (i + 1) else 2)
theorem grown_zero (szs : List Str) (name : Str) : Grown szs name 0 (allTwo szs) := ⟨allTwo_keys szs, fun k hk => by
  rw [allTwo_get hk]
  split <;> rfl⟩
theorem Grown.succ {szs : List Str} {name : Str} {i : Nat} {v : List (Str × Int)} (h : Grown szs name i v) (hn : name ∈ szs) : Grown szs name (i + 1) (setD v name (atD v name * 2)) := by
  refine ⟨by rw [setD_keys (by rw [h.1]; exact hn)]; exact h.1, fun k hk => ?_⟩
  rw [getD_setD]
  by_cases e : name = k
  · subst e
    rw [if_pos rfl, if_pos rfl]
    unfold atD
    rw [h.2 name hn, if_pos rfl]
    show some ((2 : Int) ^ (i + 1) * 2) = _
    rw [← Int.pow_succ]
  · rw [if_neg e, h.2 k hk, if_neg (Ne.symm e), if_neg (Ne.symm e)]
theorem Grown.at_ {szs : List Str} {name : Str} {i : Nat} {v : List (Str × Int)} (h : Grown szs name i v) {k : Str} (hk : k ∈ szs) : atD v k = 2 ^ (if k = name then i + 1 else 1) := by
  unfold atD
  rw [h.2 k hk]
  split <;> rfl
theorem Grown.prod {szs : List Str} {name : Str} {i : Nat} {v : List (Str × Int)} (h : Grown szs name i v) : ∀ {l : List Str}, (∀ k ∈ l, k ∈ szs) → prodF (atD v) l = 2 ^ (l.length + i * l.count name)
  | [], _ => rfl
  | k :: l, hl => by
    rw [prodF_cons, h.prod fun x hx => hl x (List.mem_cons_of_mem _ hx), h.at_ (hl k (List.mem_cons_self ..)), ← Int.pow_add, List.length_cons, List.count_cons]
    congr 1
    by_cases e : k = name
    · subst e
      rw [if_pos rfl]
      simp only [beq_self_eq_true, if_true, Nat.mul_add]
      omega
    · rw [if_neg e]
      have e1 : (k == name) = false := beq_eq_false_iff_ne.mpr e
      simp only [e1, Bool.false_eq_true, if_false, Nat.add_zero]
      omega
theorem two_le {a b : Nat} (h : a ≤ b) : (2 : Int) ^ a ≤ 2 ^ b := by
  have := Nat.pow_le_pow_right (n := 2) (by decide) h
  exact_mod_cast this
theorem two_lt {a b : Nat} (h : a < b) : (2 : Int) ^ a < 2 ^ b := by
  have := Nat.pow_lt_pow_right (a := 2) (by decide) h
  exact_mod_cast this
theorem Grown.ends {szs : List Str} {name : Str} {i : Nat} {v : List (Str × Int)} (h : Grown szs name i v) {l m : List Str} (hl : ∀ k ∈ l, k ∈ szs) (hm : ∀ k ∈ m, k ∈ szs) (c : m.count name < l.count name) (lm : m.length ≤ 12) (le : prodF (atD v) l ≤ prodF (atD v) m) : i ≤ 12 := by
  rw [h.prod hl, h.prod hm] at le
  refine Classical.byContradiction fun n => ?_
  have : m.length + i * m.count name < l.length + i * l.count name := by
    have : i * (m.count name + 1) ≤ i * l.count name := Nat.mul_le_mul_left _ c
    rw [Nat.mul_add, Nat.mul_one] at this
    omega
  have := two_lt this
  omega
theorem grow_step {one second : List Str} {name : Str} {n : Nat} {v : List (Str × Int)} : grow one second name (n + 1) v = if prodF (atD v) one ≤ prodF (atD v) second then grow one second name n (setD v name (atD v name * 2)) else v := rfl
theorem two_400 {a : Nat} (h : a ≤ 200) : (2 : Int) ^ a < 2 ^ 400 := two_lt (by omega)
theorem Grown.val {szs : List Str} {name k : Str} {i : Nat} {v : List (Str × Int)} (h : Grown szs name i v) (hk : k ∈ szs) (hi : i ≤ 13) : valV (dV v) (Sum.inr k) = some (.int (atD v k)) ∧ 0 ≤ atD v k ∧ atD v k < 2 ^ 400 := by
  refine ⟨?_, ?_, ?_⟩
  · rw [dV_val, h.2 k hk]
    unfold atD
    rw [h.2 k hk]
    rfl
  · rw [h.at_ hk]
    exact Int.le_of_lt (Int.pow_pos (by decide))
  · rw [h.at_ hk]
    exact two_400 (by split <;> omega)
theorem Grown.low {szs : List Str} {name : Str} {i : Nat} {v : List (Str × Int)} (h : Grown szs name i v) {l : List Str} (hl : ∀ k ∈ l, k ∈ szs) (ll : l.length ≤ 12) (hi : i ≤ 13) (j : Nat) : prodF (atD v) (l.take j) < 2 ^ 400 := by
  rw [h.prod fun k hk => hl k (List.mem_of_mem_take hk)]
  refine two_400 ?_
  have c : (l.take j).count name ≤ (l.take j).length := List.count_le_length
  have t : (l.take j).length ≤ 12 := by rw [List.length_take]; omega
  have : i * (l.take j).count name ≤ 13 * 12 := Nat.mul_le_mul hi (by omega)
  omega
theorem grow_last {one second : List Str} {name : Str} {n : Nat} {v : List (Str × Int)} (h : ¬ prodF (atD v) one ≤ prodF (atD v) second) : grow one second name n v = v := by
  cases n with
  | zero => rfl
  | succ n => rw [grow_step, if_neg h]
theorem dV_len {l : List (Str × Int)} {szs : List Str} (h : l.map (·.1) = szs) : (dV l).length = szs.length := by
  rw [← h, List.length_map]
  unfold dV
  rw [List.length_map]
/-- the cell at a place, side by side from the last one -/
def foundGo (f : Str → Int) : List Sd → List (Str × Int) × Int → List (Str × Int) × Int
  | [], a => a
  | r :: fs, a => foundGo f fs (setD a.1 r.1 (min (a.2 / prodF f r.2.2) (prodF f r.2.1 - 1)), a.2 - min (a.2 / prodF f r.2.2) (prodF f r.2.1 - 1) * prodF f r.2.2)
def foundM (rows fs : List Sd) (f : Str → Int) (n : Int) : Option (List Int) :=
  if (foundGo f fs.reverse ([], n)).2 = 0 then some (rows.map fun r => (getD (foundGo f fs.reverse ([], n)).1 r.1).getD 0) else none
theorem prodF_le {f : Str → Int} : ∀ {l : List Str}, (∀ k ∈ l, 1 ≤ f k ∧ f k < 2 ^ 10) → 1 ≤ prodF f l ∧ prodF f l ≤ 2 ^ (10 * l.length)
  | [], _ => ⟨Int.le_refl 1, Int.le_refl 1⟩
  | k :: l, h => by
    obtain ⟨a, b⟩ := h k (List.mem_cons_self ..)
    obtain ⟨c, d⟩ := prodF_le (l := l) fun x hx => h x (List.mem_cons_of_mem _ hx)
    rw [prodF_cons, List.length_cons, Nat.mul_add, Nat.mul_one, Int.pow_add, Int.mul_comm]
    refine ⟨?_, Int.mul_le_mul d (by omega) (by omega) (Int.le_of_lt (Int.pow_pos (by decide)))⟩
    have := Int.mul_le_mul c a (by decide) (by omega)
    rwa [Int.mul_one] at this
/-! what is answered, as data -/
def OwnAt (rows : List Sd) (v : V) (H : Hp) : Prop := match orderM rows with
  | .inl fs => ∃ p, v = .ref p ∧ H p = some (.lst (strL (fs.map (·.1))))
  | .inr _ => v = .non
def ClashAt (rows : List Sd) (v : V) (H : Hp) : Prop := match clashM rows with
  | some (kv, c1, c2) => (kv.map (·.1)).Nodup ∧ ∃ t d x y, v = .ref t ∧ H t = some (.tup [.ref d, .ref x, .ref y]) ∧ H d = some (.dK (dV kv)) ∧ H x = some (.lst (c1.map V.int)) ∧ H y = some (.lst (c2.map V.int))
  | none => v = .non
def HoleAt (rows fs : List Sd) (v : V) (H : Hp) : Prop := match holeM (sizesM rows) fs with
  | some (kv, n) => (kv.map (·.1)).Nodup ∧ ∃ t d, v = .ref t ∧ H t = some (.tup [.ref d, .int n]) ∧ H d = some (.dK (dV kv))
  | none => v = .non
def CellAt (rows fs : List Sd) (f : Str → Int) (n : Int) (v : V) (H : Hp) : Prop := match foundM rows fs f n with
  | some c => ∃ p, v = .ref p ∧ H p = some (.lst (c.map V.int))
  | none => v = .non
end CP

set_option Elab.async false
set_option linter.all false
set_option maxRecDepth 100000
set_option maxHeartbeats 4000000
set_option autoImplicit false
/-! dicts that are walked: locked for that long -/
namespace CP
open L2 PySem PyProof.Rows
section
variable {K : PySem.W.Frag} {σ : L2.St} {H : Hp} {Q : VK} {d : Addr} {kvs : List (Key × V)} {t td : TE} {od : Obj} {z : Str} {v : V}
theorem r_lockE (h : H d = some (.dK kvs)) (q : ∀ od H1, H1 d = some (.frz od (.dK kvs)) → (∀ b o, b ≠ d → H b = some o → H1 b = some o) → (∀ H', Same H1 H' → Same H (upd H' d (.dK kvs))) → t σ H1 fun v H' => H' d = some (.frz od (.dK kvs)) ∧ Q v (upd H' d (.dK kvs))) : tLockE t σ H Q :=
  ⟨d, _, h, by trivial, fun od => q od _ upd_same (fun b o ne e => by rw [upd_ne ne]; exact e) fun H' s b o e => by
    by_cases ne : b = d
    · subst ne
      rw [h] at e
      rw [upd_same, e]
    · rw [upd_ne ne]
      exact s b o (by rw [upd_ne ne]; exact e)⟩
theorem r_iKeys {R : It → Hp → Prop} (q : td σ H fun x H1 => ∃ d o, x = .ref d ∧ ((∃ kvs, H1 d = some (.frz o (.dK kvs)) ∧ R (Itk d o kvs) H1) ∨ ∃ kvs, H1 d = some (.frz o (.dT kvs)) ∧ R (Itkt d o kvs) H1)) : iKeys td σ H R := q
theorem r_dgetF {P : V → Prop} (h : H d = some (.frz od (.dK kvs))) (e : valV kvs (Sum.inr z) = some v) (q : P v) : ∃ a v, V.ref d = .ref a ∧ DGet H a (.str z) (some v) ∧ P v :=
  ⟨d, v, rfl, .inl ⟨kvs, Sum.inr z, .inr ⟨od, h⟩, rfl, e.symm⟩, q⟩
theorem tk_frz (h : H d = some (.dK kvs)) : TK K H (.ref d) "dict" := tk_dK h
end
section
variable {β : Type} {a : Addr} {od : Obj} {kvs : List (Key × V)} {g : TG} {tt : TT} {te : TE} {vs : List Nat} {σ : L2.St} {H1 : Hp} {D : Addr} {Qd : Hp → Prop}
theorem lc_keys (R : Hp → V → β → Prop) (ys : List (Option β)) (hD : H1 D = none) (ha : H1 a = some (.frz od (.dK kvs))) (hl : kvs.length = ys.length) (hz : ys.length < sizeLine) (mono : ∀ H H' v b, Same H H' → R H v b → R H' v b)
    (hs : ∀ (i : Nat) (k : Key) (v : V) (o : Option β) (H : Hp), kvs[i]? = some (k, v) → ys[i]? = some o → Same H1 H → (∃ acc, H D = some (.lst acc)) → Turn g tt te vs σ R D H (kV k) o)
    (hd : ∀ H acc, Same H1 H → H D = some (.lst acc) → Paired (R H) acc (ys.filterMap id) → Qd H) :
    ∃ W : Nat → Nat → Hp → Prop, (∃ m, W 0 m (upd H1 D (.lst []))) ∧ ∀ i m H, W i m H →
      ((Itk a od kvs).stop i H ∧ Qd H) ∨ ((Itk a od kvs).go i H ∧ ∃ Nx : Hp → Prop, (∀ H', Nx H' → ∃ m', m' < m ∧ W (i + 1) m' H') ∧ ∀ x H', (Itk a od kvs).yld i H x H' → g x (wipe σ vs) H' fun σ2 H2 => wipe σ2 vs = wipe σ vs ∧ tt σ2 H2 fun b H3 =>
        if b = true then te σ2 H3 fun y H4 => ∃ acc, H4 D = some (.lst acc) ∧ acc.length < sizeLine ∧ Nx (upd H4 D (.lst (acc ++ [y]))) else Nx H3) := by
  refine ⟨fun i m H => m = ys.length - i ∧ i ≤ ys.length ∧ Acc R H1 D ys i H, ⟨ys.length, by simp, Nat.zero_le _, acc_zero hD⟩, ?_⟩
  rintro i m H ⟨rfl, hi, p⟩
  have q := CP.Same.to p.1 ha
  by_cases lt : i < ys.length
  · refine .inr ⟨⟨q, by omega⟩, Acc R H1 D ys (i + 1), fun H' p' => ⟨ys.length - (i + 1), by omega, rfl, lt, p'⟩, fun x H' y => ?_⟩
    obtain ⟨rfl, k, v, hk, rfl⟩ := y
    exact turn_of mono hD hz p (List.getElem?_eq_getElem lt) (hs i k v _ _ hk (List.getElem?_eq_getElem lt) p.1 (p.2.imp fun _ z => z.1))
  · have e : i = ys.length := by omega
    subst e
    obtain ⟨s, acc, e, pr⟩ := acc_end mono p
    exact .inl ⟨⟨q, by omega⟩, hd H acc s e pr⟩
theorem lc_keysN (hD : H1 D = none) (ha : H1 a = some (.frz od (.dK kvs))) (hz : kvs.length < sizeLine)
    (hs : ∀ (i : Nat) (k : Key) (v : V) (H : Hp), kvs[i]? = some (k, v) → Same H1 H → Turn (β := V) g tt te vs σ (fun _ x b => x = b) D H (kV k) none) (hd : ∀ H, Same H1 H → H D = some (.lst []) → Qd H) :
    ∃ W : Nat → Nat → Hp → Prop, (∃ m, W 0 m (upd H1 D (.lst []))) ∧ ∀ i m H, W i m H →
      ((Itk a od kvs).stop i H ∧ Qd H) ∨ ((Itk a od kvs).go i H ∧ ∃ Nx : Hp → Prop, (∀ H', Nx H' → ∃ m', m' < m ∧ W (i + 1) m' H') ∧ ∀ x H', (Itk a od kvs).yld i H x H' → g x (wipe σ vs) H' fun σ2 H2 => wipe σ2 vs = wipe σ vs ∧ tt σ2 H2 fun b H3 =>
        if b = true then te σ2 H3 fun y H4 => ∃ acc, H4 D = some (.lst acc) ∧ acc.length < sizeLine ∧ Nx (upd H4 D (.lst (acc ++ [y]))) else Nx H3) := by
  refine lc_keys (β := V) (fun _ x b => x = b) (kvs.map fun _ => none) hD ha (by rw [List.length_map]) (by rw [List.length_map]; exact hz) (fun _ _ _ _ _ z => z) (fun i k v o H hk ho s1 _ => ?_) fun H acc s1 hacc pp => ?_
  · have e : o = none := by
      rw [List.getElem?_map, hk] at ho
      exact (Option.some.inj ho).symm
    subst e
    exact hs i k v H hk s1
  · have e : acc = [] := by
      rw [pd_eq pp]
      clear pp hs hz ha
      induction kvs with
      | nil => rfl
      | cons _ xs ih => exact ih
    subst e
    exact hd H s1 hacc
end
section
variable {K : PySem.W.Frag} {σ : L2.St} {H : Hp} {Q : VK} {te : TE} {a : Addr} {xs : List V}
theorem r_revL (q : te σ H fun x H1 => ∃ a xs, x = .ref a ∧ SqL K H1 a xs ∧ ∀ p, H1 p = none → Q (.ref p) (upd H1 p (.lst xs.reverse))) : tRevL K te σ H Q := q
theorem r_rev (h : SqL K H a xs) (q : ∀ p H', H p = none → Same H H' → H' p = some (.lst xs.reverse) → Q (.ref p) H') : ∃ b ys, V.ref a = .ref b ∧ SqL K H b ys ∧ ∀ p, H p = none → Q (.ref p) (upd H p (.lst ys.reverse)) :=
  ⟨a, xs, rfl, h, fun p hp => q p _ hp (same_new hp) upd_same⟩
end
theorem getD_mem : ∀ {l : List (Str × Int)} {p : Str × Int}, (l.map (·.1)).Nodup → p ∈ l → getD l p.1 = some p.2
  | a :: l, p, nd, h => by
    unfold getD
    rcases List.mem_cons.mp h with e | h
    · subst e; rw [if_pos rfl]
    · have ne : a.1 ≠ p.1 := fun e => (List.pairwise_cons.mp nd).1 p.1 (List.mem_map.mpr ⟨p, h, rfl⟩) e
      rw [if_neg ne]
      exact getD_mem (List.pairwise_cons.mp nd).2 h
theorem dV_get {l : List (Str × Int)} {i : Nat} {k : Key} {v : V} (h : (dV l)[i]? = some (k, v)) : ∃ p, p ∈ l ∧ k = Sum.inr p.1 ∧ v = .int p.2 := by
  unfold dV at h
  rw [List.getElem?_map] at h
  cases e : l[i]? with
  | none => rw [e] at h; cases h
  | some p =>
    rw [e] at h
    cases h
    exact ⟨p, List.mem_of_getElem? e, rfl, rfl⟩
theorem setD_nd {l : List (Str × Int)} {k : Str} {n : Int} (nd : (l.map (·.1)).Nodup) : ((setD l k n).map (·.1)).Nodup := by
  by_cases h : k ∈ l.map (·.1)
  · rw [setD_keys h]; exact nd
  · rw [setD_new h, List.map_append, List.nodup_append]
    exact ⟨nd, by simp, fun a ha b hb e => h (by have eb : b = k := List.mem_singleton.mp hb; rw [← eb, ← e]; exact ha)⟩
end CP

set_option Elab.async false
set_option linter.all false
set_option maxRecDepth 100000
set_option maxHeartbeats 4000000
set_option autoImplicit false
/-! heaps in which one object or two may change; what the law draws -/
namespace CP
open L2 PySem PyProof.Rows
theorem SB.free' {p c : Addr} {H H' : Hp} {o : HO} (s : SB p H H') (hp : H' p = some o) (h : H' c = none) : H c = none := by
  cases e : H c with
  | none => rfl
  | some u =>
    have ne : c ≠ p := fun z => by rw [z, hp] at h; cases h
    rw [s c u ne e] at h
    cases h
theorem Same.sb' {p : Addr} {H H' : Hp} (s : Same H H') : SB p H H' := fun b o _ e => s b o e
theorem SB.trans' {p : Addr} {H H1 H2 : Hp} (s : SB p H H1) (t : SB p H1 H2) : SB p H H2 := fun b o ne e => t b o ne (s b o ne e)
/-- new at q, then changed at q -/
theorem SB.fresh {p q : Addr} {H H1 H2 : Hp} (s : SB p H H1) (hq : H q = none) (t : SB q H1 H2) : SB p H H2 := fun b o ne e => t b o (fun z => by rw [z, hq] at e; cases e) (s b o ne e)
/-- the heap without two objects -/
def hid2 (p q : Addr) (H : Hp) : Hp := fun b => if b = p ∨ b = q then none else H b
theorem hid2_at {p q b : Addr} {H : Hp} {o : HO} (h : H b = some o) (n1 : b ≠ p) (n2 : b ≠ q) : hid2 p q H b = some o := by
  unfold hid2
  rw [if_neg (fun z => z.elim n1 n2)]
  exact h
theorem hid2_same {p q : Addr} {H : Hp} : Same (hid2 p q H) H := fun b o h => by
  unfold hid2 at h
  split at h
  · cases h
  · exact h
theorem hid2_p {p q : Addr} {H H' : Hp} (s : SB p H H') : Same (hid2 p q H) (hid2 p q H') := fun b o h => by
  unfold hid2 at h ⊢
  split at h
  · cases h
  · rename_i n
    rw [if_neg n]
    exact s b o (fun z => n (.inl z)) h
theorem hid2_q {p q : Addr} {H H' : Hp} (s : SB q H H') : Same (hid2 p q H) (hid2 p q H') := fun b o h => by
  unfold hid2 at h ⊢
  split at h
  · cases h
  · rename_i n
    rw [if_neg n]
    exact s b o (fun z => n (.inr z)) h
theorem hid2_s {p q : Addr} {H H' : Hp} (s : Same H H') : Same (hid2 p q H) (hid2 p q H') := hid2_p (Same.sb' s)
/-- the letters that the law uses for sizes, for names -/
def sizeW : List Str := ["m", "n", "n", "mn", "p", "abc", "height", "nm"]
def nameW : List Str := ["r", "c", "z", "kk", "a", "page", "columnes", "abcdefghij"]
theorem sizeW_let : ∀ x ∈ sizeW, letB x = true := by decide +kernel
theorem nameW_let : ∀ x ∈ nameW, letB x = true := by decide +kernel
theorem nameW_nd : nameW.Nodup := by decide +kernel
theorem sizeW_out : ∀ x ∈ sizeW, x ∉ nameW := by decide +kernel
theorem ins_perm {α : Type} (l : List α) (i : Nat) (x : α) : (l.take i ++ [x] ++ l.drop i).Perm (x :: l) := by
  have h : (l.take i ++ [x] ++ l.drop i).Perm (x :: (l.take i ++ l.drop i)) := by
    rw [List.append_assoc]
    exact List.perm_middle
  rw [List.take_append_drop] at h
  exact h
/-- a list of values whose items are texts -/
theorem strs_of_perm {l : List Str} {ys : List V} (h : ys.Perm (strL l)) : ∃ m, ys = strL m ∧ m.Perm l := by
  have all : ∀ y ∈ ys, ∃ z, y = V.str z := fun y hy => by
    obtain ⟨z, _, rfl⟩ := List.mem_map.mp (h.mem_iff.mp hy)
    exact ⟨z, rfl⟩
  let f : V → Str := fun v => match v with | .str z => z | _ => Str.empty
  have e1 : ys = strL (ys.map f) := by
    clear h
    induction ys with
    | nil => rfl
    | cons y ys ih =>
      obtain ⟨z, rfl⟩ := all y (List.mem_cons_self ..)
      have := ih fun x hx => all x (List.mem_cons_of_mem _ hx)
      show _ :: _ = _ :: strL _
      rw [← this]
  refine ⟨ys.map f, e1, ?_⟩
  have e2 : (strL l).map f = l := by
    unfold strL
    rw [List.map_map]
    exact List.map_id l
  have := h.map f
  rwa [e2] at this
theorem cut_strs (l : List Str) (n : Nat) : cutV (strL l) none (some (n : Int)) = strL (l.take n) := by
  unfold cutV
  rw [HT.sIx_none, HT.sIx_nat, List.drop_zero, Nat.sub_zero, strL_len]
  unfold strL
  rw [← List.map_take]
  congr 1
  by_cases h : n ≤ l.length
  · rw [Nat.min_eq_left h]
  · rw [Nat.min_eq_right (by omega), List.take_length, List.take_of_length_le (by omega)]
theorem cut_tail (xs : List V) (n : Nat) : cutV xs (some (n : Int)) none = xs.drop n := by
  unfold cutV
  rw [HT.sIx_none, HT.sIx_nat]
  by_cases h : n ≤ xs.length
  · rw [Nat.min_eq_left h, List.take_of_length_le (by rw [List.length_drop]; omega)]
  · rw [Nat.min_eq_right (by omega), List.drop_length, List.drop_of_length_le (by omega), List.take_nil]
theorem getItem_size : ∀ x ∈ ([.int 2, .int 2, .int 3] : List V), x = .int 2 ∨ x = .int 3 := by
  intro x hx
  simp only [List.mem_cons, List.not_mem_nil, or_false] at hx
  rcases hx with h | h | h
  · exact .inl h
  · exact .inl h
  · exact .inr h
/-- rows as the law draws them -/
structure Drawn (rows : List Sd) : Prop where
  name : ∀ r ∈ rows, r.1 ∈ nameW
  size : ∀ r ∈ rows, (∀ w ∈ r.2.1, w ∈ sizeW) ∧ r.2.1.length ≤ 3
  step : ∀ r ∈ rows, (∀ w ∈ r.2.2, w ∈ sizeW) ∧ r.2.2.length ≤ 6
theorem Drawn.rows {rows : List Sd} (h : Drawn rows) (ne : rows ≠ []) (nd : (rows.map (·.1)).Nodup) (few : rows.length ≤ 20) : Rows rows := by
  refine ⟨ne, few, fun r hr => nameW_let _ (h.name r hr), fun r hr => ⟨fun x hx => sizeW_let x ((h.size r hr).1 x hx), by have := (h.size r hr).2; omega⟩, fun r hr => ⟨fun x hx => sizeW_let x ((h.step r hr).1 x hx), by have := (h.step r hr).2; omega⟩, nd, fun r hr x hx m => ?_⟩
  obtain ⟨r2, h2, e⟩ := List.mem_map.mp m
  have xs : x ∈ sizeW := by
    rcases List.mem_append.mp hx with z | z
    · exact (h.size r hr).1 x z
    · exact (h.step r hr).1 x z
  exact sizeW_out x xs (by rw [← e]; exact h.name r2 h2)
/-- all but two stand -/
def SB2 (p q : Addr) (H H' : Hp) : Prop := ∀ b o, b ≠ p → b ≠ q → H b = some o → H' b = some o
theorem SB2.refl {p q : Addr} {H : Hp} : SB2 p q H H := fun _ _ _ _ e => e
theorem SB2.p {p q : Addr} {H H1 H2 : Hp} (s : SB2 p q H H1) (t : SB p H1 H2) : SB2 p q H H2 := fun b o n1 n2 e => t b o n1 (s b o n1 n2 e)
theorem SB2.q {p q : Addr} {H H1 H2 : Hp} (s : SB2 p q H H1) (t : SB q H1 H2) : SB2 p q H H2 := fun b o n1 n2 e => t b o n2 (s b o n1 n2 e)
theorem SideAt.at2 {p c : Addr} {H : Hp} {t a b : Addr} {r : Sd} (h1 : H t = some (.tup [.str r.1, .ref a, .ref b])) (h2 : H a = some (.lst (strL r.2.1))) (h3 : H b = some (.lst (strL r.2.2)))
    (n1 : t ≠ p) (n2 : t ≠ c) (n3 : a ≠ p) (n4 : a ≠ c) (n5 : b ≠ p) (n6 : b ≠ c) : SideAt (hid2 p c H) (.ref t) r := ⟨t, a, b, rfl, hid2_at h1 n1 n2, hid2_at h2 n3 n4, hid2_at h3 n5 n6⟩
theorem Drawn.add {rows : List Sd} (h : Drawn rows) {w : Str} {l m : List Str} (hw : w ∈ nameW) (hl : ∀ x ∈ l, x ∈ sizeW) (ll : l.length ≤ 3) (hm : ∀ x ∈ m, x ∈ sizeW) (ml : m.length ≤ 6) : Drawn (rows ++ [(w, l, m)]) := by
  have all : ∀ r ∈ rows ++ [(w, l, m)], r ∈ rows ∨ r = (w, l, m) := fun r hr => (List.mem_append.mp hr).imp id List.mem_singleton.mp
  refine ⟨fun r hr => ?_, fun r hr => ?_, fun r hr => ?_⟩
  · rcases all r hr with z | rfl
    · exact h.name r z
    · exact hw
  · rcases all r hr with z | rfl
    · exact h.size r z
    · exact ⟨hl, ll⟩
  · rcases all r hr with z | rfl
    · exact h.step r z
    · exact ⟨hm, ml⟩
theorem hid2_pp {p c : Addr} {H : Hp} : Same (hid2 p c H) (hid2 p p H) := fun b o h => by
  unfold hid2 at h ⊢
  split at h
  · cases h
  · rename_i n
    rw [if_neg (fun z => n (.inl (z.elim id id)))]
    exact h
section
variable {K : PySem.W.Frag} {a : Addr} {xs : List V} {g : TG} {tb : TS} {D : Ends} {σ : L2.St} {H : Hp} {ta : TA}
theorem r_iEnum {R : It → Hp → Prop} (q : ta σ H fun vs H1 => ∃ a xs, vs = [.ref a] ∧ SqL K H1 a xs ∧ R (Ite K a) H1) : iEnum K ta σ H R := q
theorem for_enum (Pv : Nat → L2.St → Hp → Prop) (start : Pv 0 σ H) (stay : ∀ i σ H, i ≤ xs.length → Pv i σ H → SqL K H a xs)
    (step : ∀ i x σ H T H', xs[i]? = some x → Pv i σ H → Same H H' → H' T = some (.tup [.int (i : Nat), x]) → g (.ref T) σ H' fun σ2 H2 => tb { D with nx := Pv (i + 1), ct := Pv (i + 1), bk := D.nx } σ2 H2) (fin : ∀ σ H, Pv xs.length σ H → D.nx σ H) :
    ∃ W : Nat → Nat → L2.St → Hp → Prop, (∃ m, W 0 m σ H) ∧ ∀ i m σ H, W i m σ H →
      ((Ite K a).stop i H ∧ D.nx σ H) ∨ ((Ite K a).go i H ∧ ∃ N : L2.St → Hp → Prop, (∀ σ' H', N σ' H' → ∃ m', m' < m ∧ W (i + 1) m' σ' H') ∧ ∀ x H', (Ite K a).yld i H x H' → g x σ H' fun σ2 H2 => tb { D with nx := N, ct := N, bk := D.nx } σ2 H2) := by
  refine ⟨fun i m σ H => m = xs.length - i ∧ i ≤ xs.length ∧ Pv i σ H, ⟨_, rfl, Nat.zero_le _, start⟩, fun i m σ H ⟨em, hi, p⟩ => ?_⟩
  subst em
  have q := stay i σ H hi p
  rcases Nat.lt_or_ge i xs.length with lt | ge
  · refine .inr ⟨⟨xs, xs[i], q, List.getElem?_eq_getElem lt⟩, Pv (i + 1), fun σ' H' p' => ⟨xs.length - (i + 1), by omega, rfl, lt, p'⟩, fun x H' y => ?_⟩
    obtain ⟨T, z, rfl, T0, rfl, hx⟩ := y
    exact step i z σ H T _ (hx xs q) p (same_new T0) upd_same
  · have e : i = xs.length := by omega
    subst e
    exact .inl ⟨⟨xs, q, (Nat.le_refl _ : xs.length ≤ xs.length)⟩, fin σ H p⟩
end
/-- the step of the one times its size divides the step of the other -/
def Fits (r s : Sd) : Prop := ∀ w, (r.2.1 ++ r.2.2).count w ≤ s.2.2.count w
def Comp (r s : Sd) : Prop := Fits r s ∨ Fits s r
theorem fits_ahead {r s : Sd} (h : Fits r s) : aheadB (srow r) (srow s) = true := by
  unfold aheadB
  obtain ⟨m, hm⟩ := restOf_some (o := (srow r).2.1 ++ (srow r).2.2) (l := (srow s).2.2) fun w => by
    show (srt r.2.1 ++ srt r.2.2).count w ≤ (srt s.2.2).count w
    have := h w
    rw [List.count_append, (srt_perm r.2.1).count_eq, (srt_perm r.2.2).count_eq, (srt_perm s.2.2).count_eq, ← List.count_append]
    exact this
  rw [hm]
  rfl
theorem ordGo_ok : ∀ {rs f : List Sd}, (∀ x ∈ f, ∀ r ∈ rs, r.2.1 ≠ [] → aheadB x r = true ∨ aheadB r x = true) → rs.Pairwise (fun r s => r.2.1 ≠ [] → s.2.1 ≠ [] → aheadB r s = true ∨ aheadB s r = true) → ∃ fs, ordGo f rs = .inl fs
  | [], f, _, _ => ⟨f, rfl⟩
  | r :: rs, f, h, p => by
    unfold ordGo
    obtain ⟨p1, p2⟩ := List.pairwise_cons.mp p
    by_cases e : r.2.1 = []
    · rw [if_pos e]
      exact ordGo_ok (fun x hx s hs => h x hx s (List.mem_cons_of_mem _ hs)) p2
    · rw [if_neg e]
      have fe : f.filter (fun f => !aheadB f r && !aheadB r f) = [] := List.filter_eq_nil_iff.mpr fun x hx z => by
        rcases h x hx r (List.mem_cons_self ..) e with k | k <;> rw [k] at z <;> simp at z
      rw [fe]
      refine ordGo_ok (fun x hx s hs ne => ?_) p2
      rcases List.mem_append.mp hx with hx | hx
      · rcases List.mem_append.mp hx with hx | hx
        · exact h x (List.mem_of_mem_take hx) s (List.mem_cons_of_mem _ hs) ne
        · rw [List.mem_singleton.mp hx]
          exact p1 s hs e ne
      · exact h x (List.mem_of_mem_drop hx) s (List.mem_cons_of_mem _ hs) ne
theorem order_ok {rows : List Sd} (h : (rows.filter fun r => decide (r.2.1 ≠ [])).Pairwise Comp) : ∃ fs, orderM (rows.map srow) = .inl fs := by
  refine ordGo_ok (by simp) ?_
  have : rows.Pairwise fun r s => r.2.1 ≠ [] → s.2.1 ≠ [] → Comp r s := by
    rw [List.pairwise_filter] at h
    exact h.imp fun {a b} k n1 n2 => k (decide_eq_true n1) (decide_eq_true n2)
  refine List.pairwise_map.mpr (this.imp fun {r s} k n1 n2 => ?_)
  have ne : ∀ {l : List Str}, srt l ≠ [] → l ≠ [] := fun z e => z (by rw [e]; exact List.eq_nil_of_length_eq_zero (srt_len []))
  rcases k (ne n1) (ne n2) with z | z
  · exact .inl (fits_ahead z)
  · exact .inr (fits_ahead z)
theorem r_makeK {C : Addr} {n m : Nat} {sp : Sp} {gV : List V → List V → List V} {E : XK} {t tk : TA} {σ : L2.St} {H : Hp} {Q : VK} (q : t σ H fun vs H1 => tk σ H1 fun zs H2 => vs.length = n ∧ zs.length = m ∧ ∀ x dx, H2 x = none → H2 dx = none → dx ≠ x →
  sp (gV (.ref x :: vs) zs) (upd (upd H2 dx (.own x)) x (.ins C dx [])) (fun v H3 => v = .non ∧ Q (.ref x) H3) E) : tMakeK C n m sp gV E t tk σ H Q := q
end CP
namespace CP
open L2 PySem PyProof.Rows
theorem OwnAt.mono {rows : List Sd} {v : V} {H H' : Hp} (h : OwnAt rows v H) (s : Same H H') : OwnAt rows v H' := by
  unfold OwnAt at *
  split at h
  · rename_i fs e
    obtain ⟨p, rfl, hp⟩ := h
    exact ⟨p, rfl, CP.Same.to s hp⟩
  · rename_i z e
    exact h
theorem ClashAt.mono {rows : List Sd} {v : V} {H H' : Hp} (h : ClashAt rows v H) (s : Same H H') : ClashAt rows v H' := by
  unfold ClashAt at *
  split at h
  · rename_i kv c1 c2 e
    obtain ⟨nd, t, d, x, y, rfl, h1, h2, h3, h4⟩ := h
    exact ⟨nd, t, d, x, y, rfl, CP.Same.to s h1, CP.Same.to s h2, CP.Same.to s h3, CP.Same.to s h4⟩
  · rename_i e
    exact h
theorem HoleAt.mono {rows fs : List Sd} {v : V} {H H' : Hp} (h : HoleAt rows fs v H) (s : Same H H') : HoleAt rows fs v H' := by
  unfold HoleAt at *
  split at h
  · rename_i kv n e
    obtain ⟨nd, t, d, rfl, h1, h2⟩ := h
    exact ⟨nd, t, d, rfl, CP.Same.to s h1, CP.Same.to s h2⟩
  · rename_i e
    exact h
theorem CellAt.mono {rows fs : List Sd} {f : Str → Int} {n : Int} {v : V} {H H' : Hp} (h : CellAt rows fs f n v H) (s : Same H H') : CellAt rows fs f n v H' := by
  unfold CellAt at *
  split at h
  · rename_i c e
    obtain ⟨p, rfl, h1⟩ := h
    exact ⟨p, rfl, CP.Same.to s h1⟩
  · rename_i e
    exact h
section
variable {K : PySem.W.Frag} {H : Hp} {Q : VK} {v v' : V} {rows fs : List Sd}
theorem non_ne (q : Q (.bl false) H) : rNeX K .non .non H Q := .inl (r_ne rfl (by rw [decide_eq_true rfl]; exact q))
theorem own_ne (hR : Rows rows) (h1 : OwnAt rows v H) (h2 : OwnAt rows v' H) (q : Q (.bl false) H) : rNeX K v v' H Q := by
  unfold OwnAt at *
  split at h1
  · rename_i fs e
    rw [e] at h2
    obtain ⟨p, rfl, hp⟩ := h1
    obtain ⟨p2, rfl, hp2⟩ := h2
    have lay : ∀ x ∈ fs.map (·.1), (PyData.str x).canLay0 = true := fun x hx => by
      obtain ⟨r, hr, rfl⟩ := List.mem_map.mp hx
      exact let_lay (hR.name r ((order_inl e).1 r hr))
    exact strs_neX (.of hp) (.of hp2) lay lay (by rw [decide_eq_true rfl]; exact q)
  · rename_i z e
    rw [e] at h2
    cases h1
    cases h2
    exact non_ne q
theorem dV_sq {n : Nat} {a b : Addr} {kv : List (Str × Int)} (nd : (kv.map (·.1)).Nodup) (h1 : H a = some (.dK (dV kv))) (h2 : H b = some (.dK (dV kv))) : SqV K H (n + 2) (.ref a) (.ref b) := by
  refine .inr (.inr (.inr (.inr ⟨a, b, _, _, rfl, rfl, h1, h2, rfl, fun p hp => ?_⟩)))
  unfold dV at hp
  obtain ⟨u, hu, rfl⟩ := List.mem_map.mp hp
  exact ⟨.int u.2, by show valV (dV kv) (Sum.inr u.1) = _; rw [dV_val, getD_mem nd hu]; rfl, .inl ⟨rfl, rfl⟩⟩
theorem ints_sq {n : Nat} {a b : Addr} {l : List Int} (h1 : H a = some (.lst (l.map V.int))) (h2 : H b = some (.lst (l.map V.int))) : SqV K H (n + 2) (.ref a) (.ref b) := by
  refine .inr (.inr (.inl ⟨a, b, _, _, rfl, rfl, .of h1, .of h2, ?_⟩))
  clear h1 h2
  induction l with
  | nil => exact .nil
  | cons x l ih => exact .cons (.inl ⟨rfl, rfl⟩) ih
theorem clash_ne (h1 : ClashAt rows v H) (h2 : ClashAt rows v' H) (q : Q (.bl false) H) : rNeX K v v' H Q := by
  unfold ClashAt at *
  cases e : clashM rows with
  | none =>
    rw [e] at h1 h2
    cases h1
    cases h2
    exact non_ne q
  | some z =>
    obtain ⟨kv, c1, c2⟩ := z
    rw [e] at h1 h2
    obtain ⟨nd, t, d, x, y, rfl, a1, a2, a3, a4⟩ := h1
    obtain ⟨_, t2, d2, x2, y2, rfl, b1, b2, b3, b4⟩ := h2
    exact .inr (.inr ⟨3, t, t2, _, _, by decide, rfl, rfl, .inr ⟨.of a1, .of b1⟩, .cons (dV_sq nd a2 b2) (.cons (ints_sq a3 b3) (.cons (ints_sq a4 b4) .nil)), q⟩)
theorem hole_ne (h1 : HoleAt rows fs v H) (h2 : HoleAt rows fs v' H) (q : Q (.bl false) H) : rNeX K v v' H Q := by
  unfold HoleAt at *
  cases e : holeM (sizesM rows) fs with
  | none =>
    rw [e] at h1 h2
    cases h1
    cases h2
    exact non_ne q
  | some z =>
    obtain ⟨kv, n⟩ := z
    rw [e] at h1 h2
    obtain ⟨nd, t, d, rfl, a1, a2⟩ := h1
    obtain ⟨_, t2, d2, rfl, b1, b2⟩ := h2
    exact .inr (.inr ⟨3, t, t2, _, _, by decide, rfl, rfl, .inr ⟨.of a1, .of b1⟩, .cons (dV_sq nd a2 b2) (.cons (.inl ⟨rfl, rfl⟩) .nil), q⟩)
theorem cell_ne {f : Str → Int} {n : Int} (h1 : CellAt rows fs f n v H) (h2 : CellAt rows fs f n v' H) (q : Q (.bl false) H) : rNeX K v v' H Q := by
  unfold CellAt at *
  cases e : foundM rows fs f n with
  | none =>
    rw [e] at h1 h2
    cases h1
    cases h2
    exact non_ne q
  | some c =>
    rw [e] at h1 h2
    obtain ⟨p, rfl, a1⟩ := h1
    obtain ⟨p2, rfl, b1⟩ := h2
    refine .inr (.inr ⟨3, p, p2, _, _, by decide, rfl, rfl, .inl ⟨.of a1, .of b1⟩, ?_, q⟩)
    clear a1 b1 e
    induction c with
    | nil => exact .nil
    | cons x l ih => exact .cons (.inl ⟨rfl, rfl⟩) ih
end
end CP

set_option Elab.async false
set_option linter.all false
set_option maxRecDepth 100000
set_option maxHeartbeats 4000000
set_option autoImplicit false
/-! promises of defs that are kept where no repr is under way (so that repr of lists and tuples may be asked), and repr -/
namespace CP
open L2 PySem PyProof.Rows
/-- no repr is under way -/
def Gd (A : Around) : Prop := A.guards = some []
structure FnG (P : Program) (w : World) (K : PySem.W.Frag) (mg : Str → Option Value) (base : Heap) (CX : CXT) (k : Nat) (f : Addr) (fd : FuncData) (ps : List Str) (sp : Sp) : Prop where
  wide : ∀ zs h Q E, sp zs h Q E → zs.length = ps.length
  goes : ∀ (B : Around), Gd B → Room k B → ∀ (out : List Env) (t : Shared) (h : Hp) (args : Args) (us : List Value) (zs : List V) (Q : VK) (E : XK), Env0 P w K mg base B out t h → BindsTo t fd args (ps.zip us) → Vals zs us → sp zs h Q E →
    codeAny (model P w) B (.call (.ref f) args) (CR CX out P w h t Q E) t
section
variable {CX : CXT} {P : Program} {w : World} {K : PySem.W.Frag} {mg : Str → Option Value} {base : Heap} {k : Nat} {f : Addr} {fd : FuncData} {ps : List Str} {sp sp' : Sp}
theorem FnG.of (F : FnOk P w K mg base CX k f fd ps sp) : FnG P w K mg base CX k f fd ps sp :=
  ⟨F.len, fun B _ hr out t h args us zs Q E => F.run B out t h args us zs Q E hr⟩
theorem FnG.imp (F : FnG P w K mg base CX k f fd ps sp) (i : ∀ vs H Q E, sp' vs H Q E → sp vs H Q E) : FnG P w K mg base CX k f fd ps sp' :=
  ⟨fun zs h Q E q => F.wide zs h Q E (i _ _ _ _ q), fun B g hr out t h args us zs Q E e b v q => F.goes B g hr out t h args us zs Q E e b v (i _ _ _ _ q)⟩
/-- the rule for a def: its body is read where no repr is under way -/
theorem fnG_of {name qual : Str} {params : Arguments} {body : List Stmt} {scope : Scope} {dV kV doc pm cdv ct oc : Value} {an od : Option Addr} {osl : Array (Option Value)} {N : List Str}
    (lk : K.lookup f = some ⟨oc, od, .func (PySem.W.fnOf name qual params body scope dV kV doc pm an cdv ct), osl⟩) (hcd : PySem.W.codeIn K cdv qual = true) (S : FnScope N ps scope) (wide : ∀ zs h Q E, sp zs h Q E → zs.length = ps.length)
    (hb : ∀ (B : Around) (out : List Env) (t : Shared) (h : Hp) (zs : List V) (Q : VK) (E : XK), Gd (B.deeper (envOfC qual scope t.heap.objs.size f cdv)) → Room k (B.deeper (envOfC qual scope t.heap.objs.size f cdv)) → sp zs h Q E →
      ∃ r, PSs (cxOf CX P w K mg base N qual scope f cdv B out t h E) body r ∧ r { nx := fun _ h' => Q .non h', rt := Q } (start N zs) h) :
    FnG P w K mg base CX (k + 1) f (PySem.W.fnOf name qual params body scope dV kV doc pm an cdv ct) ps sp := by
  refine ⟨wide, fun B gd room out t h args us zs Q E env bind vals pr => ?_⟩
  have kin : K.In t.heap := env.mod.kin.keeps fun b o z => (env.bs b o z).1
  have nolim : t.heap.NoLimit := env.mod.nolimit.keeps fun b o z => (env.bs b o z).1
  have kinds : ∀ y ∈ ps.zip us, scope.names.lookup y.1 = some .local ∨ (scope.names.lookup y.1 = some .cell ∧ ((cellsFrom (t.heap.objs.size + 1) scope.names []).lookup y.1).isSome = true) := fun y hy =>
    (S.par y.1 (List.of_mem_zip (b := y.2) hy).1).imp id fun z => ⟨z, PySem.W.cellsFrom_some _ _ _ (.inl z)⟩
  refine codeAny_call_function room.depth (kin _ _ lk) rfl S.co S.gen rfl (PySem.W.codeRec_of kin hcd) (bind _ _ _ _ (wpAny_newFunctionEnv_cells S.kind kinds fun e he t1 x => ?_))
  cases he
  refine ⟨nolim.keeps x.toInCall.keep, codeAny_func ?_⟩
  obtain ⟨r, hr, hq⟩ := hb B out t h zs Q E gd (room.deeper _) pr
  refine wpAny_mono (hr.run [] t1 (start N zs) h _ (inv_start S room.hd env (wide _ _ _ _ pr) vals x) hq) (fun fl t' z => ?_) fun _ _ z => z
  match fl, z with
  | .ret u, ⟨v, _, h', J, rv, q⟩ => exact ⟨v, h', J.os, J.bare, J.base, J.hok, rv, q⟩
  | .next, ⟨_, h', J, q⟩ => exact ⟨V.non, h', J.os, J.bare, J.base, J.hok, rfl, q⟩
  | .brk, ⟨_, _, _, q⟩ => exact q.elim
  | .cont, ⟨_, _, _, q⟩ => exact q.elim
theorem Fun.okG {x qual : Str} {st : Stmt} {N : List Str} (F : Fun K x qual st f fd) (S : FnScope N ps (defScope st)) (wide : ∀ zs h Q E, sp zs h Q E → zs.length = ps.length)
    (hb : ∀ (cdv : Value) (B : Around) (out : List Env) (t : Shared) (h : Hp) (zs : List V) (Q : VK) (E : XK), Gd (B.deeper (envOfC qual (defScope st) t.heap.objs.size f cdv)) → Room k (B.deeper (envOfC qual (defScope st) t.heap.objs.size f cdv)) → sp zs h Q E →
      ∃ r, PSs (cxOf CX P w K mg base N qual (defScope st) f cdv B out t h E) (defBody st) r ∧ r { nx := fun _ h' => Q .non h', rt := Q } (start N zs) h) : FnG P w K mg base CX (k + 1) f fd ps sp := by
  obtain ⟨oc, od, kV, doc, pm, an, cdv, ct, osl, rfl, lk, hcd⟩ := F.ex
  exact fnG_of lk hcd S wide fun B out t h zs Q E => hb cdv B out t h zs Q E
end
/-! calls of such -/
section
variable {X : Cx} {CX : CXT} {k m : Nat} {f : Addr} {fd : FuncData} {ps ks : List Str} {sp : Sp} {dvs : List V} {ds : List Value} {E : XK} {x : Str} {p pos : Pos} {e : Expr} {es : List Expr} {t : TA}
theorem runG {pins : List (Addr × Obj)} {σ : L2.St} {H : Hp} {s : Shared} {Q : VK} {ws : List Value} {args : Args} {vs : List V} (F : FnG X.prog X.w X.K X.mg X.base CX k f fd ps sp) (gd : Gd X.A) (hr : Room k X.A) (hb : BindsTo s fd args (ps.zip ws)) (hx : Passes CX X E)
    (I : Inv X pins σ H s) (r : Vals vs ws) (h : sp vs H Q E) : codeAny (model X.prog X.w) X.A (.call (.ref f) args) (fun r s' => match r with | .error e => X.xe e s' | .ok (.ret u) => EP X pins σ Q u s' | .ok _ => False) s := by
  refine codeAny_mono (F.goes X.A gd hr X.stack s H args ws vs Q E I.env0 hb r h) fun r s' z => ?_
  match r, z with
  | .error e, z => exact hx pins σ H s e s' I z
  | .ok (.ret u), z => exact I.after z
theorem pe_callG (F : FnG X.prog X.w X.K X.mg X.base CX k f fd ps sp) (gd : Gd X.A) (hr : Room k X.A) (hg : Gl X x) (hm : X.mg x = some (.ref f)) (hk : PySem.W.keepIn X.K (.ref f) = true) (hb : Binds X.K fd ps ds) (hd : Vals dvs ds) (hx : Passes CX X E) (ha : PA X (e :: es) t)
    (hdb : (x == ("__debug__" : Str)) = false := by decide) (he : starEach (e :: es) X.env = (false, eval e X.env) :: starEach es X.env := by rfl) (hpl : (backTo pos (starEach es X.env)).any (·.1) = false := by rfl) :
    PE X (.Call (.Name x p) (e :: es) [] pos) (tCall sp dvs E t) := by
  constructor
  intro pins s σ H Q I h
  refine wpAny_Call_Name_kw (ld_glob I hg hm ?_ hdb)
  refine PySem.W.callWith_K (h₀ := X.base) I.ok.mod.kin hk (thn (ha.run pos pins s σ H _ I h) fun us s1 z => ?_) he hpl
  obtain ⟨zs, H1, I1, r, q⟩ := z
  have r2 : Vals (zs ++ dvs) (us ++ ds) := r.append hd
  refine ⟨I1.kIn, wpAny_call (codeAny_mono (runG F gd hr (hb s1 us I1.kIn (by rw [← r2.length]; exact F.wide _ _ _ _ q)) hx I1 r2 q) fun r s' z => ?_)⟩
  match r, z with
  | .error e, z => exact z
  | .ok (.ret u), z => exact z
/-- repr of data -/
def rRepr (K : PySem.W.Frag) : List V → Hp → VK → Prop := fun xs H Q => ∃ a d, xs = [.ref a] ∧ Dp K H (.ref a) d ∧ d.showable = true ∧ d.hasDict = false ∧ d.depth ≤ 60 ∧ d.shown.length ≤ sizeLine ∧ Q (.str d.shown) H
theorem call_reprD (gd : Gd X.A) (hu : X.A.units + 64 < cLine) : CallR X (.builtin "repr") (rRepr X.K) := by
  intro pins s σ H xs us Q I r h
  obtain ⟨a, d, rfl, hd, hs, hn, h6, hz, q⟩ := h
  obtain ⟨u, rfl, ru⟩ := vals1 r
  obtain ⟨as, rd⟩ := Dp.reads I d _ u hd ru
  cases (show u = Value.ref a from ru)
  exact repr_of_reads' rd hs (fun z => by rw [hn] at z; cases z) gd (by omega) (fun _ _ z => z) (fun h' v tk keep => ⟨.str d.shown, H, inv_grow I keep (Same.refl _) (fun _ _ z => .inl z), ⟨_, rfl⟩, q⟩) hz
end
/-! the law's own call -/
theorem script_at {K : PySem.W.Frag} {P : Program} {w : World} {mg mb : Str → Option Value} {CX : CXT} {k : Nat} {fa a : Addr} {fd : FuncData} {x : Str} {sp : Sp} {t : Shared} {vals : List Value} {H : Hp}
    (KX : K.In t.heap) (G : t.heap.Ns mainGlobals mg) (B : t.heap.Ns builtinsNs mb) (boot : ∀ x : Str, x ≠ "__name__" → mb x = bootBuiltins x) (lim : t.heap.NoLimit) (gens : t.gens = #[])
    (own : t.heap.get? a = some { cls := .type "list", data := .seq vals.toArray }) (room : Room k callerA) (F : ∀ base : Heap, K.In base → base.Ns mainGlobals mg → FnG P w K mg base CX k fa fd [x] sp)
    (bind : ∀ (s : Shared) (u : Value), BindsTo s fd ⟨[u], []⟩ [(x, u)]) (noX : ∀ H e t', CX [] H t (fun _ _ _ => False) e t' → False) (only : Only H) (ok : HOk P w H t.heap) (lone : ∀ b, H b ≠ none → b = a) (notK : H a ≠ none → K.lookup a = none)
    (pr : sp [.ref a] H (fun v _ => v = .bl true) fun _ _ _ => False) :
    codeAny (model P w) callerA (.call (.ref fa) ⟨[.ref a], []⟩) (fun r t' => r = .ok (.ret (.bool true)) ∧ OldK t.heap t'.heap ∧ t'.os = t.os ∧ AllBare t'.gens) t := by
  have low : ∀ {b : Addr} {o : Obj}, t.heap.get? b = some o → H b = none → (hidT t.heap H).get? b = some o := fun z n => hidT_get z n
  have isA : ∀ {b : Addr}, (∀ u, H b = some u → b = a → False) → H b = none := fun {b} z => by
    cases q : H b with
    | none => rfl
    | some u => exact (z u q (lone b (by rw [q]; simp))).elim
  have noD : ∀ {b : Addr} {m : Str → Option Value}, t.heap.Ns b m → (hidT t.heap H).Ns b m := fun {b m} ⟨o, es, ep, z, d, r⟩ => ⟨o, es, ep, low z (isA fun u _ e => by
    subst e
    rw [own] at z
    cases z
    cases (show Data.seq vals.toArray _ = Data.dict es ep from d)), d, r⟩
  have kin : K.In (hidT t.heap H) := fun b o z => low (KX b o z) (isA fun u qu e => by
    subst e
    rw [notK (by rw [qu]; simp)] at z
    cases z)
  obtain ⟨mc, l1, l2⟩ := lim
  have md : Mod K mg (hidT t.heap H) := ⟨kin, noD G, ⟨mb, noD B, boot⟩, mc, noD l1, l2⟩
  have env : Env0 P w K mg (hidT t.heap H) callerA [] t H := ⟨rfl, md, fun b o z => of_hidT z, Nat.le_of_eq (hidT_size _ _), trivial, fun b z => absurd (show b ∈ ([] : List Addr) from z) (by simp), ok, .of_eq gens⟩
  refine codeAny_mono ((F _ kin (noD G)).goes callerA rfl room [] t H ⟨[.ref a], []⟩ [.ref a] [.ref a] _ _ env (bind t (.ref a)) (.cons rfl .nil) pr) fun r t' z => ?_
  match r, z with
  | .error e, z => exact (noX H e t' z).elim
  | .ok (.ret u), ⟨v, H', os, bare, un, ok', ru, q⟩ =>
    cases (show v = .bl true from q)
    cases (show u = Value.bool true from ru)
    refine ⟨rfl, OldK.of_keep fun b o z => ?_, os, bare⟩
    rcases only b with n | ⟨oo, xs, n⟩
    · exact un.keep b o z n (by intro y; exact absurd (show b ∈ ([] : List Addr) from y) (by simp)) (by simp)
    · have g1 := (ok b _ n).1
      rw [z] at g1
      cases g1
      exact (ok' b _ (un.frzs b _ _ n)).1
theorem walk_G {l : PySem.W.OpenLaw} {n k : Nat} {q : Program} {loose : List Str} {XP : (Str → Option Value) → Heap → Prop} {YP : World → Heap → Prop} {d : DefRec} {K : Params → PySem.W.Frag} {CX : World → CXT} {sp : World → Sp} {x : Str}
    (hn : l.most = some n) (hz : n ≤ sizeLine) (hdf : d.params.defaults = []) (room : Room k callerA) (hY : ∀ (w : World) (h : Heap), YP w h → (K w.params).In h)
    (F : ∀ (w : World) (mg : Str → Option Value) (fa : Addr) (h : Heap), (K w.params).In h → h.Ns mainGlobals mg → mg d.name = some (.ref fa) →
      ∃ fd : FuncData, (∀ (s : Shared) (u : Value), BindsTo s fd ⟨[u], []⟩ [(x, u)]) ∧ ∀ base : Heap, (K w.params).In base → base.Ns mainGlobals mg → FnG l.prog w (K w.params) mg base (CX w) k fa fd [x] (sp w))
    (pr : ∀ (w : World) (H : Hp) (a : Addr) (ns : List Int), ns.length ≤ n → Only H → SqL (K w.params) H a (ns.map V.int) → sp w [.ref a] H (fun v _ => v = .bl true) fun _ _ _ => False)
    (noX : ∀ (w : World) (H : Hp) (s : Shared) (e : Value) (s' : Shared), CX w [] H s (fun _ _ _ => False) e s' → False) :
    PySem.W.WalkO q loose XP YP l.row.toRowW d [] (fun f vs => PySem.call f vs) := by
  refine Att.attach_call hn hdf fun w t0 t mg mb fa o pm cd doc a vals ns G Y ho hd hcd hmg own hints few gens => ?_
  have KX := hY w _ Y
  obtain ⟨fd, bind, goes⟩ := F w mg fa _ KX G.T.g hmg
  have rv := vals_ints hints
  have len : ns.length = vals.length := hints.length.symm
  have sz : ns.length ≤ sizeLine := Nat.le_trans few hz
  have core := fun (H : Hp) (only : Only H) (sq : SqL (K w.params) H a (ns.map V.int)) (ok : HOk l.prog w H t.heap) (lone : ∀ b, H b ≠ none → b = a) (notK : H a ≠ none → (K w.params).lookup a = none) =>
    script_at KX G.T.g G.T.b G.T.builtins G.T.nolimit gens own room goes bind (fun H e s' => noX w H t e s') only ok lone notK (pr w H a ns few only sq)
  cases hk : (K w.params).lookup a with
  | some ob =>
    have z := KX a ob hk
    rw [own] at z
    cases z
    exact core (fun _ => none) (fun _ => .inl rfl) (.inr ⟨_, vals.toArray, _, hk, rfl, rfl, rfl, by rw [List.size_toArray, ← len]; exact sz, by simpa using rv⟩) (fun b u z => nomatch (show (none : Option HO) = some u from z)) (fun b z => (z rfl).elim) fun z => (z rfl).elim
  | none =>
    have at_a : ∀ {b : Addr} {u : HO}, (if b = a then some (HO.frz { cls := .type "list", data := .seq vals.toArray } (.lst (ns.map V.int))) else none) = some u → b = a ∧ u = .frz { cls := .type "list", data := .seq vals.toArray } (.lst (ns.map V.int)) := fun {b u} z => by
      split at z
      · rename_i e
        cases z
        exact ⟨e, rfl⟩
      · cases z
    refine core (fun b => if b = a then some (.frz { cls := .type "list", data := .seq vals.toArray } (.lst (ns.map V.int))) else none) (fun b => ?_) (.inl (.inr ⟨{ cls := .type "list", data := .seq vals.toArray }, if_pos rfl⟩)) (fun b u z => ?_) (fun b z => ?_) fun _ => hk
    · by_cases e : b = a
      · exact .inr ⟨_, _, if_pos e⟩
      · exact .inl (if_neg e)
    · obtain ⟨e, hu⟩ := at_a z
      subst hu
      subst e
      exact ⟨own, by rw [List.length_map]; exact sz, vals, _, rv, own⟩
    · by_cases e : b = a
      · exact e
      · exact (z (if_neg e)).elim
end CP

set_option Elab.async false
set_option linter.all false
set_option maxRecDepth 100000
set_option maxHeartbeats 4000000
set_option autoImplicit false
/-! errors of own classes as values: made, their __init__ handed on to a class above, kept -/
namespace CP
open L2 PySem PyProof.Rows
section
variable {X : Cx} {CX : CXT} {C fI CE : Addr} {k : Nat} {fd : FuncData} {ps : List Str} {sp : Sp} {ds : List Value} {dvs : List V} {x : Str} {e : Expr} {es : List Expr} {ta : TA} {p p1 p2 pos : Pos} {mc : Value}
/-- a class over ValueError is called: the new error is tracked from now on -/
theorem run_err {pins : List (Addr × Obj)} {σ : L2.St} {H : Hp} {s : Shared} {us : List Value} {vs : List V} {Q : VK} (T : OexC X.K C)
    (iC : PySem.W.findIn X.K (.ref C) "__init__" = some (some (.ref fI))) (tI : PySem.W.typeIn X.K (.ref fI) = some (.type "function"))
    (F : FnOk X.prog X.w X.K X.mg X.base CX k fI fd ps sp) (hr : Room (k + 1) X.A) (hb : Binds X.K fd ps ds) (hd : Vals dvs ds) (hx : Passes CX X (fun _ _ _ => False))
    (I : Inv X pins σ H s) (r : Vals vs us) (hz : vs.length ≤ 1000)
    (q : ∀ a, H a = none → sp (.ref a :: (vs ++ dvs)) (upd H a (exo a C none)) (fun v H2 => v = .non ∧ Q (.ref a) H2) (fun _ _ _ => False)) :
    wpAny (model X.prog X.w) X.A (call (.ref C) us) (EP X pins σ Q) X.xe s := by
  obtain ⟨nm, qn, N, bs, bm, sn, sub, ab, col, dd, k0, k1, k2, k3, k5, hC, hbm⟩ := T.cls
  obtain ⟨h0, g0, d0, t0, o0⟩ := s
  have le : h0.objs.size ≤ h0.objs.size + 1 := Nat.le_succ _
  have free : H (h0.objs.size + 1) = none := I.hok.fresh le
  have z := q _ free
  have keep : ∀ b o, h0.get? b = some o → ((h0.push (PySem.W.kdv_tup us)).push (PySem.HandSPX.excO C h0.objs.size)).get? b = some o :=
    fun b o eb => Heap.get?_push_of_some _ (Heap.get?_push_of_some _ eb)
  have there : ((h0.push (PySem.W.kdv_tup us)).push (PySem.HandSPX.excO C h0.objs.size)).get? (h0.objs.size + 1) = some (PySem.HandSPX.excO C h0.objs.size) := by heap_get
  have J : Inv X pins σ (upd H (h0.objs.size + 1) (exo (h0.objs.size + 1) C none)) ⟨(h0.push (PySem.W.kdv_tup us)).push (PySem.HandSPX.excO C h0.objs.size), g0, d0, t0, o0⟩ :=
    I.laid (t' := t0) (h' := (h0.push (PySem.W.kdv_tup us)).push (PySem.HandSPX.excO C h0.objs.size)) (o := exo (h0.objs.size + 1) C none) (a := h0.objs.size + 1) keep le (exo_ok there)
  have rr : Vals (V.ref (h0.objs.size + 1) :: (vs ++ dvs)) (Value.ref (h0.objs.size + 1) :: (us ++ ds)) := .cons rfl (r.append hd)
  have len : (Value.ref (h0.objs.size + 1) :: us ++ ds).length = ps.length := by
    have el := rr.length
    rw [F.len _ _ _ _ z] at el
    exact el.symm
  have few : us.length ≤ sizeLine := by
    rw [← Paired.length r, sizeLine_eq]
    omega
  refine wpAny_call (PySem.HandSPX.call_own PySem.F.excBase_ValueError (fun Y => PySem.HandSPX.refsVE_contains Y bm hbm) (I.kIn _ _ hC) (PySem.W.looks_findIn I.kIn iC) (fun self => PySem.W.bind_fn I.kIn self tI) few
    (codeAny_mono (F.run _ X.stack _ _ ⟨Value.ref (h0.objs.size + 1) :: us, []⟩ (Value.ref (h0.objs.size + 1) :: (us ++ ds)) _ _ (fun _ _ _ => False) (hr.make C us []) (J.env0.make C us []) (hb _ (Value.ref (h0.objs.size + 1) :: us) J.kIn len) rr z) fun w s' y => ?_))
  match w, y with
  | .error er, y => exact hx pins σ _ _ er s' J y
  | .ok (.ret u), y =>
    obtain ⟨v, H2, K2, rv, ev, y2⟩ := J.after y
    subst ev
    exact ⟨rv, .ref (h0.objs.size + 1), H2, K2, rfl, y2⟩
/-- C(e, ..) as a value -/
def tErr (C : Addr) (sp : Sp) (dvs : List V) (ta : TA) : TE := fun σ H Q => ta σ H fun vs H1 => vs.length ≤ 1000 ∧ ∀ a, H1 a = none → sp (.ref a :: (vs ++ dvs)) (upd H1 a (exo a C none)) (fun v H2 => v = .non ∧ Q (.ref a) H2) (fun _ _ _ => False)
theorem pe_err (T : OexC X.K C) (iC : PySem.W.findIn X.K (.ref C) "__init__" = some (some (.ref fI))) (tI : PySem.W.typeIn X.K (.ref fI) = some (.type "function"))
    (F : FnOk X.prog X.w X.K X.mg X.base CX k fI fd ps sp) (hr : Room (k + 1) X.A) (hb : Binds X.K fd ps ds) (hd : Vals dvs ds) (hx : Passes CX X (fun _ _ _ => False)) (hg : Gl X x) (hm : X.mg x = some (.ref C)) (ha : PA X (e :: es) ta)
    (nd : (x == ("__debug__" : Str)) = false := by decide) (st : starEach (e :: es) X.env = (false, eval e X.env) :: starEach es X.env := by rfl) (pl : (backTo pos (starEach es X.env)).any (·.1) = false := by rfl) :
    PE X (.Call (.Name x p) (e :: es) [] pos) (tErr C sp dvs ta) := by
  refine ⟨fun pins s σ H Q I h => ?_⟩
  refine wpAny_Call_Name_kw (ld_glob I hg hm ?_ nd)
  exact PySem.W.callWith_K (h₀ := X.base) I.ok.mod.kin T.kC (thn (ha.run pos pins s σ H _ I h) fun us s1 ⟨vs, H1, I1, r1, hz, q1⟩ => ⟨I1.kIn, run_err T iC tI F hr hb hd hx I1 r1 hz q1⟩) st pl
theorem pe_err0 (T : OexC X.K C) (iC : PySem.W.findIn X.K (.ref C) "__init__" = some (some (.ref fI))) (tI : PySem.W.typeIn X.K (.ref fI) = some (.type "function"))
    (F : FnOk X.prog X.w X.K X.mg X.base CX k fI fd ps sp) (hr : Room (k + 1) X.A) (hb : Binds X.K fd ps ds) (hd : Vals dvs ds) (hx : Passes CX X (fun _ _ _ => False)) (hg : Gl X x) (hm : X.mg x = some (.ref C))
    (nd : (x == ("__debug__" : Str)) = false := by decide) : PE X (.Call (.Name x p) [] [] pos) (tErr C sp dvs tNil) := by
  refine ⟨fun pins s σ H Q I h => ?_⟩
  refine wpAny_Call_Name_kw (ld_glob I hg hm ?_ nd)
  exact PySem.W.callWith_K0 I.kIn T.kC (run_err (us := []) T iC tI F hr hb hd hx I .nil h.1 h.2)
/-- CE.__init__(self, ..), CE a class over ValueError without one of its own -/
theorem pe_ceinit {pl : Sem Bool} (hg : Gl X x) (hm : X.mg x = some (.ref CE)) (R : ClX.CRead X.K CE mc) (vV : PySem.W.findCls X.K (.ref CE) mc "__init__" = some (.val (.builtin "ValueError.__init__"))) (ha : PA X (e :: es) ta)
    (nd : (x == ("__debug__" : Str)) = false := by decide)
    (hc : eval (.Call (.Attribute (.Name x p1) "__init__" p2) (e :: es) [] pos) X.env = (do
      let c ← eval (.Name x p1) X.env
      standAt p2.atName
      let (g, one) ← holding [c] (getMethod c "__init__" pl)
      callWith pos g one (backTo pos (starEach (e :: es) X.env)) (backToKw pos (keywordEach [] X.env))) := by rfl)
    (st : starEach (e :: es) X.env = (false, eval e X.env) :: starEach es X.env := by rfl) (np : (backTo pos (starEach es X.env)).any (·.1) = false := by rfl) :
    PE X (.Call (.Attribute (.Name x p1) "__init__" p2) (e :: es) [] pos) (tVeI X.K ta) := by
  refine ⟨fun pins s σ H Q I h => ?_⟩
  refine PySem.W.methodCall_KW (ld_glob I hg hm ?_ nd) hc
  refine PySem.W.method_cls I.kIn R.ga (PySem.W.cls_value I.kIn R.rd vV (by decide +kernel) ?_)
  refine PyProof.Rows.callWith_method1 (e := e) (rest := es) (thn (ha.run pos pins _ σ H _ (I.tok _) h) fun us s1 ⟨vs, H1, I1, rv, a, D, ws, ev, few, T, there, q⟩ => ?_) st np
  subst ev
  cases rv with
  | cons ru rr =>
    cases ru
    have := Paired.length rr
    exact oinit_ok T I1 there (by rw [sizeLine_eq]; omega) fun s2 J => ⟨.non, H1, J, rfl, q⟩
end
/-! ### kept errors: their fields, their classes -/
/-- at a: an error of the class cls, its dict d -/
def errV (a : Addr) (cls : Value) (d : Option Addr) : HO := .ext fun h => ∃ oe, h.get? a = some oe ∧ Zc cls d oe ∧ ∃ vs, oe.data = .fields vs
/-- the error at a is of the class D and has these fields -/
def ErrK (H : Hp) (a D : Addr) (fs : List (Str × V)) : Prop := ∃ d, (H a = some (exo a D d) ∨ H a = some (errV a (.ref D) d)) ∧ ((d = none ∧ fs = []) ∨ ∃ dx, d = some dx ∧ (H dx = some (exd dx fs) ∨ H dx = some (.xd fs)))
theorem ErrK.mono {H H' : Hp} {a D : Addr} {fs : List (Str × V)} (h : ErrK H a D fs) (s : Same H H') : ErrK H' a D fs := by
  obtain ⟨d, h1, h2⟩ := h
  refine ⟨d, h1.imp (s _ _) (s _ _), h2.imp id fun ⟨dx, e, h3⟩ => ⟨dx, e, h3.imp (s _ _) (s _ _)⟩⟩
section
variable {X : Cx} {pins : List (Addr × Obj)} {σ : L2.St} {H : Hp} {s : Shared} {a D : Addr} {fs : List (Str × V)}
theorem ErrK.inst (I : Inv X pins σ H s) (h : ErrK H a D fs) : ∃ ox od, PySem.W.InstAt s.heap a ox D od ∧ ∀ f, ∀ v, fs.lookup f = some v → ∃ o u, od = some o ∧ PySem.W.lookIn f o = some (some u) ∧ RelV v u := by
  obtain ⟨d, h1, h2⟩ := h
  obtain ⟨oe, e, z1, z2, vs, z3⟩ : ∃ oe, s.heap.get? a = some oe ∧ oe.cls = .ref D ∧ oe.dict = d ∧ ∃ vs, oe.data = .fields vs := by
    rcases h1 with h | h
    · obtain ⟨t, e⟩ := exo_at I.hok h
      exact ⟨_, e, rfl, rfl, _, rfl⟩
    · obtain ⟨⟨oe, e, z, f⟩, _⟩ := I.hok a _ h
      exact ⟨oe, e, z.1, z.2, f⟩
  obtain ⟨oc, od, oda, osl⟩ := oe
  dsimp only at z1 z2 z3
  subst z1 z2 z3
  rcases h2 with ⟨rfl, rfl⟩ | ⟨dx, rfl, h⟩
  · exact ⟨_, none, ⟨e, rfl, rfl, trivial⟩, fun f v z => nomatch z⟩
  · obtain ⟨mA, ns, rel⟩ : ∃ mA, s.heap.Ns1 dx mA ∧ ∀ f, RelO (fs.lookup f) (mA f) := by
      rcases h with h | h
      · exact exd_at I.hok h
      · exact I.hok dx _ h
    obtain ⟨o, ho, hl⟩ := lookIn_ns ns
    refine ⟨_, some o, ⟨e, rfl, rfl, ho⟩, fun f v z => ?_⟩
    obtain ⟨u, hu, ru⟩ := RelO.some_of (v := v) (o := mA f) (by rw [← z]; exact rel f)
    exact ⟨o, u, rfl, by rw [hl, hu], ru⟩
/-- isinstance of a kept error -/
def rErrIs (K : PySem.W.Frag) : List V → Hp → VK → Prop := fun xs H Q => ∃ (a D : Addr) (fs : List (Str × V)) (c : V) (u : Value) (b : Bool), xs = [.ref a, c] ∧ ErrK H a D fs ∧ ExcC K D ∧ ClsV c u ∧ PySem.W.kitOne K (.ref D) u = some b ∧ Q (.bl b) H
theorem call_isErr : CallR X (.builtin "isinstance") (rErrIs X.K) := by
  intro pins s σ H xs us Q I r h
  obtain ⟨a, D, fs, c, u, b, rfl, he, C, cv, kit, q⟩ := h
  obtain ⟨ox, od, J, _⟩ := he.inst I
  cases r with
  | cons rx rr =>
    cases rr with
    | cons rt rr =>
      cases rr
      cases rx
      have ec := cv.eq rt
      subst ec
      have hc : (PySem.W.clsIn X.K D).isSome = true := by
        obtain ⟨cd, e, _⟩ := PySem.W.any_some C.hd
        rw [e]
        rfl
      exact PySem.W.kia_one (PySem.W.kitx_exc hc C.hg C.hk C.hs C.ha C.hn C.ht C.hm) I.kIn J kit (fun z => nomatch z) fun tk => ⟨.bl b, H, I.kept (t' := tk) fun _ _ z => z, rfl, q⟩
/-- e.f, e a kept error -/
def tErrF (K : PySem.W.Frag) (te : TE) (f : Str) : TE := fun σ H Q => te σ H fun x H1 => ∃ (a D : Addr) (fs : List (Str × V)) (v : V), x = .ref a ∧ ErrK H1 a D fs ∧ XfC K D ∧ PySem.W.findIn K (.ref D) f = some none ∧ fs.lookup f = some v ∧ Q v H1
theorem pe_errF {e : Expr} {te : TE} {f : Str} {pos : Pos} (he : PE X e te) (hb : attributeBase e f X.env (eval e X.env) = eval e X.env := by rfl) : PE X (.Attribute e f pos) (tErrF X.K te f) := by
  refine ⟨fun pins s σ H Q I h => ?_⟩
  refine attr_of hb (thn (he.run pins s σ H _ I h) fun w s1 ⟨x, H1, I1, rx, a, D, fs, v, ex, hk, T, no, l, q⟩ => ?_)
  subst ex
  cases rx
  obtain ⟨ox, od, J, lk⟩ := hk.inst I1
  obtain ⟨o, u, eo, hl, ru⟩ := lk f v l
  subst eo
  exact HandSPX.exc_get I1.kIn J T.ga T.gg T.exC (PySem.W.findObj_own T.hdC no rfl (by rw [hl])) (handed_of ru) ⟨v, H1, I1.tok _, ru, q⟩
end
end CP

set_option Elab.async false
set_option linter.all false
set_option maxRecDepth 100000
set_option maxHeartbeats 4000000
set_option autoImplicit false
/-! a caught error that is kept behind the except suite -/
namespace CP
open L2 PySem PyProof.Rows
section
variable {X : Cx} {pins : List (Addr × Obj)} {σ : L2.St} {H : Hp} {s : Shared} {a : Addr} {oe : Obj} {cls : Value} {d : Option Addr}
theorem errV_ok {P : Program} {w : World} {h : Heap} (e : h.get? a = some oe) (z : Zc cls d oe) (f : ∃ vs, oe.data = .fields vs) : ObjOk P w H h a (errV a cls d) :=
  ⟨⟨oe, e, z, f⟩, ⟨oe, e⟩, fun h1 h2 ⟨o, e1, r⟩ k => ⟨o, k o e1, r⟩⟩
/-- a pinned error that is newer than the frame is tracked -/
theorem keep_ok (I : Inv X ((a, oe) :: pins) σ H s) (new : X.s_0.heap.get? a = none) (z : Zc cls d oe) (f : ∃ vs, oe.data = .fields vs) (np : ∀ p ∈ X.pn ++ pins, p.1 ≠ a) : Inv X pins σ (upd H a (errV a cls d)) s := by
  obtain ⟨there, na, nL, nF, nc⟩ := I.pin (a, oe) (List.mem_append_right _ List.mem_cons_self)
  have there : s.heap.get? a = some oe := there
  have na : H a = none := na
  have nL : a ≠ X.env.locals := nL
  refine ⟨I.ok, I.os, I.bare, ⟨I.base.keep, I.base.slot, fun b o e n hx => ?_, I.base.there, fun b xs e => ?_, fun b o u e => ?_, fun b ps e => ?_⟩, I.loc, I.cell, ?_, fun x c e => ?_, fun p hp => ?_, I.hok.laidN (fun _ _ e => e) na (errV_ok there z f), I.len⟩
  · rw [upd_ne (fun k => by rw [k, new] at e; cases e)]
    exact I.base.free b o e n hx
  · have y := I.base.tups b xs e
    rw [upd_ne (ne_of_none y na)]
    exact y
  · have y := I.base.frzs b o u e
    rw [upd_ne (ne_of_none y na)]
    exact y
  · obtain ⟨more, y⟩ := I.base.tbls b ps e
    exact ⟨more, by rw [upd_ne (ne_of_none y na)]; exact y⟩
  · rw [upd_ne (Ne.symm nL)]
    exact I.free
  · rw [upd_ne (fun k => ?_)]
    · exact I.freeC x c e
    · obtain ⟨v, hv⟩ := I.cell x c e
      rw [k] at hv
      obtain ⟨vs, hd⟩ := f
      obtain ⟨o, ho, hc⟩ := hv
      rw [there] at ho
      cases ho
      rw [hd] at hc
      cases hc
  · have hp' : p ∈ X.pn ++ ((a, oe) :: pins) := by
      rcases List.mem_append.mp hp with k | k
      · exact List.mem_append_left _ k
      · exact List.mem_append_right _ (List.mem_cons_of_mem _ k)
    obtain ⟨h1, h2, h3⟩ := I.pin p hp'
    exact ⟨h1, by rw [upd_ne (np p hp)]; exact h2, h3⟩
end
/-- what follows, the error kept -/
def keepD (D : Ends) (i : Nat) (a : Addr) (cls : Value) (d : Option Addr) : Ends where
  nx := fun τ G => D.nx (τ.set i none) (upd G a (errV a cls d))
  rt := fun v G => D.rt v (upd G a (errV a cls d))
  bk := fun τ G => D.bk (τ.set i none) (upd G a (errV a cls d))
  ct := fun τ G => D.ct (τ.set i none) (upd G a (errV a cls d))
def wKeep (K : PySem.W.Frag) (c : Value) (i : Nat) (ts : Addr → Value → Option Addr → TS) (W0 : WX) (D : Ends) : WX := fun cls d τ G =>
  ∃ b, PySem.W.exmOne K cls c = some b ∧ (b = true → ∀ a, G a = none → ts a cls d (keepD D i a cls d) (τ.set i (some (.ref a))) G) ∧ (b = false → W0 cls d τ G)
section
variable {X : Cx} {x n : Str} {c : Value} {i : Nat} {body suite : List Stmt} {b0 : Stmt} {p1 p2 pos : Pos} {tb : WX → TS} {ts : Addr → Value → Option Addr → TS} {W0 : WX}
/-- try: body / except x as n: suite; behind it the error is tracked -/
theorem ps_try_keep (st : X.stack = X.env :: X.outer) (fr : X.env.frame = some X.env.locals) (nd : X.N.Nodup) (hi : X.N[i]? = some n) (ln : X.env.kindOf n = some .local) (hc : Names X x c) (hx : X.ex = []) (out : Takes X W0)
    (hb : ∀ (W : WX) (pn : List (Addr × Obj)) (xe : Value → Shared → Prop), Takes (X.tr pn xe) W → PassesOwn (model X.prog X.w) X.A X.env xe → PSs (X.tr pn xe) body (tb W))
    (hsu : ∀ (a : Addr) (oe : Obj) (cls : Value) (d : Option Addr) (pn : List (Addr × Obj)), Zc cls d oe → (∃ vs, oe.data = .fields vs) → PSs (X.suite a ((a, oe) :: pn)) (b0 :: suite) (ts a cls d)) :
    PS X (.Try body [.ExceptHandler (some (.Name x p1)) (some n) (b0 :: suite) p2] [] [] pos) (fun D τ G => tb (wKeep X.K c i ts W0 D) D τ G) := by
  refine ⟨fun pins s σ H D I h => ?_⟩
  have ok := I.ok
  have frs2 : X.A.frames = some (X.env :: X.outer) := ok.frames.trans (by rw [st])
  refine wpAny_Try_except ?_
  let M := model X.prog X.w
  let late : Value → Shared → Prop := fun u t1 => wpAny M X.A (noteFrame u X.env) (fun _ t2 => wpAny M X.A (setFlight u none)
    (fun _ t3 => wpAny M X.A (handleBy u X.env [.ExceptHandler (some (.Name x p1)) (some n) (b0 :: suite) p2]) (SP X pins D) X.xe t3) X.xe t2) X.xe t1
  refine wpAny_mono ((hb (wKeep X.K c i ts W0 D) (X.pn ++ pins) late (fun u s' xx => ?kaught) PassesOwn.looking).run [] s σ H D (I.toTry _) h) (fun f s1 q => ?done) (fun e s1 he => he)
  case done =>
    match f, q with
    | .next, ⟨σ1, H1, J, q⟩ => exact wpAny_execs_nil ⟨σ1, H1, J.ofTry ok, q⟩
    | .brk, ⟨σ1, H1, J, q⟩ => exact ⟨σ1, H1, J.ofTry ok, q⟩
    | .cont, ⟨σ1, H1, J, q⟩ => exact ⟨σ1, H1, J.ofTry ok, q⟩
    | .ret u, ⟨v, σ1, H1, J, r, q⟩ => exact ⟨v, σ1, H1, J.ofTry ok, r, q⟩
  case kaught =>
    obtain ⟨a, B, t0, old, τ, G, cls, d, rfl, J0, nb, up, sky, na, os, ag, b, yes, keep, pass⟩ := xx
    have J : Inv X pins τ G t0 := J0.ofTry ok
    have sky1 : Sky B (X.env :: X.outer) a (Zc cls d) X.env.locals s'.heap := st ▸ sky
    show wpAny (model X.prog X.w) X.A (noteFrame (.ref a) X.env) _ _ _
    refine Sky.land Zc.steady frs2 fr sky1 fun g1 fly up1 => ?_
    have K1 : Inv X pins τ G { s' with heap := g1 } := J.landed nb fly.1 (up.trans up1) os ag
    obtain ⟨o1, vs1, e1, z1, f1⟩ := fly.there
    have out_ : ∀ {g : Heap} {o : Obj} {vs : Array Value}, g.FunFrames B (X.env :: X.outer) → g.get? a = some o → o.data = .fields vs → a ∉ frs (X.env :: X.outer) := fun {g o vs} ff ea da m => by
      obtain ⟨_, o2, e2, no⟩ := ff.mem m
      rw [ea] at e2
      cases e2
      exact no _ da
    have no := out_ fly.2.2.1 e1 f1
    have nL : a ≠ X.env.locals := fun k => no (List.mem_filterMap.mpr ⟨X.env, List.mem_cons_self, fr.trans (by rw [k])⟩)
    have nF : a ∉ X.fs := fun m => by
      obtain ⟨v, hv, q⟩ := List.mem_filterMap.mp m
      exact no (List.mem_filterMap.mpr ⟨v, List.mem_cons_of_mem _ hv, q⟩)
    have nt : t0.heap.get? a = none := by
      cases k : t0.heap.get? a with
      | none => rfl
      | some o =>
        have k2 := nb a o k (by rw [st]; exact no)
        rw [fly.2.1] at k2
        cases k2
    have new : X.s_0.heap.get? a = none := by
      cases k : X.s_0.heap.get? a with
      | none => rfl
      | some o =>
        obtain ⟨o2, k2⟩ := J.base.there a o k (by rw [hx]; simp)
        rw [nt] at k2
        cases k2
    have np : ∀ p ∈ X.pn ++ pins, p.1 ≠ a := fun p hp k => by
      have := (J.pin p hp).1
      rw [k, nt] at this
      cases this
    have S1 := K1.suite e1 f1 na nL nF
    refine wpAny_handleBy_cons (codeAny_handlers_test ?_) (fun q => nomatch q)
    have ty : PySem.W.Looks M g1 (typeOf (.ref a)) cls := fun A' Q' E' s2 k q => wpAny_typeOf_ref (k _ _ e1) (by rw [z1.1]; exact q)
    have is := PySem.W.exm_one (M := M) K1.kIn ty yes
    have named : ∀ {Q' : Value → Shared → Prop} {E' : Value → Shared → Prop}, Q' c { s' with heap := g1 } → wpAny M (X.A.mark (some (.ref a))) (eval (.Name x p1) X.env) Q' E' { s' with heap := g1 } := fun {Q' E'} q => by
      obtain ⟨hg, hdb, hm | ⟨hm, hv, hnn⟩⟩ := hc
      · exact ld_glob (X := X.suite a ((a, o1) :: (X.pn ++ pins))) S1 hg hm q hdb
      · exact ld_blt (X := X.suite a ((a, o1) :: (X.pn ++ pins))) S1 hg hm hv q hnn hdb
    refine named (is.here ?_)
    cases b with
    | true =>
      refine codeAny_handlers_suite_as ?_
      refine HandSPX.lands_againZ fly fun g2 fly2 up2 => ?_
      have K2 : Inv X pins τ G { s' with heap := g2 } := J.landed nb fly2.1 ((up.trans up1).trans up2) os ag
      obtain ⟨o2, vs2, e2, z2, f2⟩ := fly2.there
      have S2 := K2.suite e2 f2 na nL nF
      refine store_ok (X := X.suite a ((a, o2) :: (X.pn ++ pins))) (v := .ref a) S2 nd hi (.inl ln) rfl (fun s3 S3 => ?_) (.inr ln)
      refine wpAny_mono ((hsu a o2 cls d (X.pn ++ pins) z2 ⟨_, f2⟩).run [] s3 _ G _ S3 (keep rfl a na)) (fun f s4 q => ?_) (fun _ _ z => z.elim)
      have last : ∀ {τ4 : L2.St} {G4 : Hp} {Q : Shared → Prop}, Inv (X.suite a ((a, o2) :: (X.pn ++ pins))) [] τ4 G4 s4 → (∀ s5, Inv X pins (τ4.set i none) (upd G4 a (errV a cls d)) s5 → Q s5) →
          wpAny M X.A (do bindName X.env n .none; unbindBehindTheSuite X.env n p2) (fun _ s5 => Q s5) X.xe s4 := fun {τ4 G4 Q} S4 q => by
        have P4 : Inv X ((a, o2) :: pins) τ4 G4 s4 := ⟨ok, S4.os, S4.bare, S4.base, S4.loc, S4.cell, S4.free, S4.freeC, fun p hp => S4.pin p (by
          rcases List.mem_append.mp hp with k | k
          · exact List.mem_append_left _ (List.mem_cons_of_mem _ (List.mem_append_left _ k))
          · rcases List.mem_cons.mp k with k | k
            · rw [k]; exact List.mem_append_left _ List.mem_cons_self
            · exact List.mem_append_left _ (List.mem_cons_of_mem _ (List.mem_append_right _ k))), S4.hok, S4.len⟩
        exact gone_ok P4 nd hi ln fun s5 P5 => q s5 (keep_ok P5 new z2 ⟨_, f2⟩ np)
      match f, q with
      | .next, ⟨τ4, G4, S4, q⟩ => exact last S4 fun s5 J5 => ⟨_, _, J5, q⟩
      | .brk, ⟨τ4, G4, S4, q⟩ => exact last S4 fun s5 J5 => ⟨_, _, J5, q⟩
      | .cont, ⟨τ4, G4, S4, q⟩ => exact last S4 fun s5 J5 => ⟨_, _, J5, q⟩
      | .ret u, ⟨v4, τ4, G4, S4, r4, q⟩ => exact last S4 fun s5 J5 => ⟨v4, _, _, J5, r4, q⟩
    | false =>
      show wpAny _ X.A (handleBy (.ref a) X.env []) _ _ _
      refine wpAny_handleBy_nil ?_
      obtain ⟨_, _, _, o3, vs3, T3, oT, ts3, e3, z3, f3, h3, r3⟩ := id fly
      unfold PySem.passOn
      refine wpAny_bind (wpAny_field e3 f3 h3 ?_)
      rw [if_neg (show ¬ ((Value.ref T3 == Value.none) = true) from by simp)]
      have on : wpAny M X.A (setFlight (.ref a) X.env.frame) (fun _ s4 => wpAny M X.A (throw (.ref a) : Sem Flow) (SP X pins D) X.xe s4) X.xe { s' with heap := g1 } := by
        rw [fr]
        refine HandSPX.setFlight_upZ fly fun g4 held up4 => wpAny_throw (out _ _ ?_)
        exact ⟨a, B, t0, pins, τ, G, cls, d, rfl, J, nb, (up.trans up1).trans up4, .inr (.inr (st.symm ▸ held)), na, os, ag, pass rfl⟩
      first
        | exact wpAny_bind (wpAny_pure (wpAny_bind on))
        | exact wpAny_bind on
end
end CP

set_option Elab.async false
set_option linter.all false
set_option maxRecDepth 100000
set_option maxHeartbeats 4000000
set_option autoImplicit false
/-! an error of an own class made by keywords -/
namespace EW
open PySem PySem.Spec PyProof.Rows PySem.HandSPX
section
variable {M : Model} {A : Around} {E : Value → Shared → Prop} {h : Heap} {g : Array GenState} {d : Drawn} {t : Nat} {os : OsState}
  {nm q : Str} {C N : Addr} {bs bm bmB : List Value} {hdct : Bool} {sn : List Str} {sub : List Value} {ab : Bool} {col : Option Bool} {dd : Option Addr} {k0 k1 k2 k3 k5 : Option Value} {B newId initId : String}
theorem check_kw (F : ExcBaseFacts B newId initId bmB) (same : ∀ X : String, bm.contains (.type X) = bmB.contains (.type X)) {kw : List (Str × Value)} {Q : Unit → Shared → Prop}
    (cls : h.get? C = some (excClassObj nm q C N bs bm hdct sn sub ab col dd k0 k1 k2 k3 k5 newId)) (done : Q () ⟨h, g, d, t, os⟩) : wpAny M A (checkBuiltinCall newId ⟨[.ref C], kw⟩) Q E ⟨h, g, d, t, os⟩ := by
  have above : (Value.ref C :: bm).contains (.type B) = true := by
    rw [List.contains_cons, same, F.hasB]
    exact Bool.or_true _
  have star := F.noStar
  simp only [checkBuiltinCall, F.newKind, F.newSplit, F.newRow]
  repeat (first
    | refine wpAny_loadPart_at cls ?_
    | (refine wpAny_isSubtype_exc cls ?_; rw [above])
    | refine wpAny_staticBase_exc cls ?_
    | refine wpAny_madeBy_exc cls ?_
    | simp only [bne_self_eq_false, Bool.false_eq_true, if_false]
    | wp_step)
  exact done
end
section
variable {prog : Program} {w : World} {A : Around} {E : Value → Shared → Prop} {R : Result → Shared → Prop} {h : Heap} {g : Array GenState} {d : Drawn} {t : Nat} {os : OsState}
  {nm q : Str} {C N : Addr} {bs bm bmB : List Value} {hdct : Bool} {sn : List Str} {sub : List Value} {ab : Bool} {col : Option Bool} {dd : Option Addr} {k0 k1 k2 k3 k5 : Option Value} {B newId initId : String}
theorem new_kw (F : ExcBaseFacts B newId initId bmB) (same : ∀ X : String, bm.contains (.type X) = bmB.contains (.type X)) {kw : List (Str × Value)}
    (cls : h.get? C = some (excClassObj nm q C N bs bm hdct sn sub ab col dd k0 k1 k2 k3 k5 newId))
    (done : R (.ok (.ret (.ref (h.objs.size + 1)))) ⟨(h.push (W.kdv_tup [])).push (excO C h.objs.size), g, d, t, os⟩) :
    codeAny (model prog w) A (.builtin newId ⟨[.ref C], kw⟩) R ⟨h, g, d, t, os⟩ := by
  have ends := F.ends
  have up : ∀ X : String, (Value.ref C :: bm).contains (.type X) = bmB.contains (.type X) := fun X => by
    rw [List.contains_cons, same]
    rfl
  have aB : (Value.ref C :: bm).contains (.type B) = true := (up B).trans F.hasB
  have aA : (Value.ref C :: bm).contains (.type "AttributeError") = false := (up _).trans F.noAttr
  have aN : (Value.ref C :: bm).contains (.type "NameError") = false := (up _).trans F.noName
  refine PySem.codeAny_builtinAt F.entry ?_
  unfold Builtin.«BaseException.__new__»
  refine PySem.wpAt_bind ?_
  show PySem.wpAt _ _ _ (stack >>= _) _ _ _
  refine PySem.wpAt_bind (PySem.wpAt_stack fun _ _ => PySem.wpAt_of_wpAny ?_)
  wp_walk
  refine PySem.wpAt_of_wpAny ?_
  rw [F.owner]
  repeat (first
    | with_reducible refine wpAny_madeHere_exc F.canon cls ?_
    | with_reducible refine wpAny_loadPart_at cls ?_
    | (with_reducible refine wpAny_isSubtype_exc cls ?_
       first | rw [aB] | rw [aA] | rw [aN])
    | wp_step)
  show R _ _
  rw [Heap.size_push]
  exact done
theorem type_call_kw (F : ExcBaseFacts B newId initId bmB) (same : ∀ X : String, bm.contains (.type X) = bmB.contains (.type X)) {kw : List (Str × Value)} {f : Addr} {Q : Fin → Shared → Prop}
    (cls : h.get? C = some (excClassObj nm q C N bs bm hdct sn sub ab col dd k0 k1 k2 k3 k5 newId))
    (ini : W.Looks (model prog w) h (typeLookup (.ref C) "__init__") (some (.ref f))) (bnd : ∀ self, W.Looks (model prog w) h (bindSpecial (.ref f) self) (.ref f, [self]))
    (run : codeAny (model prog w) A (.call (.ref f) ⟨[.ref (h.objs.size + 1)], kw⟩) (fun r s' => match r with
      | .ok (.ret v) => v = .none ∧ Q (.done (.ret (.ref (h.objs.size + 1)))) s'
      | .ok _ => False
      | .error e => E e s') ⟨(h.push (W.kdv_tup [])).push (excO C h.objs.size), g, d, t, os⟩) :
    wpAny (model prog w) A (Builtin.«type.__call__» ⟨[.ref C], kw⟩) Q E ⟨h, g, d, t, os⟩ := by
  repeat (first
    | with_reducible refine wpAny_loadPart_at cls ?_
    | with_reducible refine wpAny_madeBy_exc cls ?_
    | wp_step)
  refine codeAny_call_builtin_code (Code.quiet_builtin _ F.quiet) (check_kw F same cls ?_)
  refine new_kw F same cls ?_
  show wpAny _ _ _ _ _ _
  have kept : ∀ b o, h.get? b = some o → ((h.push (W.kdv_tup [])).push (excO C h.objs.size)).get? b = some o := fun b o z =>
    Heap.get?_push_of_some _ (Heap.get?_push_of_some _ z)
  have cls1 := kept _ _ cls
  have made : ((h.push (W.kdv_tup [])).push (excO C h.objs.size)).get? (h.objs.size + 1) = some (excO C h.objs.size) := by heap_get
  have self : (Value.ref C :: bm).contains (.ref C) = true := by simp
  unfold isInstance
  repeat (first
    | with_reducible refine wpAny_loadPart_at made ?_
    | (with_reducible refine wpAny_isSubtype_exc cls1 ?_
       rw [self])
    | wp_step)
  show wpAny _ _ (typeLookup (.ref C) _) _ _ _
  refine (ini.keeps kept).at ?_
  refine wpAny_holding (wpAny_bind (((bnd (.ref (h.objs.size + 1))).keeps kept).at ?_))
  refine wpAny_bind (wpAny_call (codeAny_mono run fun r s' z => ?_))
  match r, z with
  | .error e, z => exact z
  | .ok (.ret v), ⟨ev, z⟩ =>
    subst ev
    first
      | exact wpAny_pure (wpAny_pure z)
      | (wp_walk; exact z)
theorem call_kw (F : ExcBaseFacts B newId initId bmB) (same : ∀ X : String, bm.contains (.type X) = bmB.contains (.type X)) {kw : List (Str × Value)} {f : Addr}
    (cls : h.get? C = some (excClassObj nm q C N bs bm hdct sn sub ab col dd k0 k1 k2 k3 k5 newId))
    (ini : W.Looks (model prog w) h (typeLookup (.ref C) "__init__") (some (.ref f))) (bnd : ∀ self, W.Looks (model prog w) h (bindSpecial (.ref f) self) (.ref f, [self]))
    (run : codeAny (model prog w) (A.under (.builtin "type.__call__" ⟨[.ref C], kw⟩)) (.call (.ref f) ⟨[.ref (h.objs.size + 1)], kw⟩) (W.InitBack (h.objs.size + 1) R) ⟨(h.push (W.kdv_tup [])).push (excO C h.objs.size), g, d, t, os⟩) :
    codeAny (model prog w) A (.call (.ref C) ⟨[], kw⟩) R ⟨h, g, d, t, os⟩ := by
  have l1 := tc_lookup
  have l2 := tc_bind (.ref C)
  have isT : (⟨h, g, d, t, os⟩ : Shared).TypeIs (.ref C) "type" := ⟨_, cls, rfl⟩
  refine codeAny_of_tree ?_
  show wpAny _ _ (callAny (.ref C) _) _ _ _
  repeat (any_goals (first
    | assumption
    | with_reducible refine wpAny_loadPart_at cls ?_
    | wp_step))
  refine ⟨rfl, ?_⟩
  refine codeAny_call_builtin_at (Code.quiet_builtin _ (by decide +kernel)) entry_typeCall (wpAny_check_type_call_sub cls (type_call_kw F same cls ini bnd ?_))
  refine codeAny_mono run fun r s' z => ?_
  match r, z with
  | .error e, z => exact z
  | .ok (.ret v), z => exact z
end
end EW
namespace CP
open L2 PySem PyProof.Rows
section
variable {X : Cx} {CX : CXT} {C fI : Addr} {k : Nat} {fd : FuncData} {ps ks : List Str} {sp : Sp} {x : Str} {kws : List Keyword} {tk : TA} {p pos : Pos} {gN : List Value → List Value → List Value} {gV : List V → List V → List V}
/-- C(f = e) as a value -/
def tErrK (C : Addr) (m : Nat) (sp : Sp) (gV : List V → List V → List V) (tk : TA) : TE := fun σ H Q => tk σ H fun zs H1 => zs.length = m ∧ ∀ a, H1 a = none → sp (gV [.ref a] zs) (upd H1 a (exo a C none)) (fun v H2 => v = .non ∧ Q (.ref a) H2) (fun _ _ _ => False)
theorem run_errK {pins : List (Addr × Obj)} {σ : L2.St} {H : Hp} {s : Shared} {ws : List Value} {zs : List V} {Q : VK} (T : OexC X.K C)
    (iC : PySem.W.findIn X.K (.ref C) "__init__" = some (some (.ref fI))) (tI : PySem.W.typeIn X.K (.ref fI) = some (.type "function"))
    (F : FnOk X.prog X.w X.K X.mg X.base CX k fI fd ps sp) (hr : Room (k + 1) X.A) (hb : KBn X.K fd ps 1 ks gN gV) (hx : Passes CX X (fun _ _ _ => False))
    (I : Inv X pins σ H s) (r : Vals zs ws) (lz : zs.length = ks.length)
    (q : ∀ a, H a = none → sp (gV [.ref a] zs) (upd H a (exo a C none)) (fun v H2 => v = .non ∧ Q (.ref a) H2) (fun _ _ _ => False)) :
    wpAny (model X.prog X.w) X.A (call (.ref C) [] (ks.zip ws)) (EP X pins σ Q) X.xe s := by
  obtain ⟨nm, qn, N, bs, bm, sn, sub, ab, col, dd, k0, k1, k2, k3, k5, hC, hbm⟩ := T.cls
  obtain ⟨h0, g0, d0, t0, o0⟩ := s
  have le : h0.objs.size ≤ h0.objs.size + 1 := Nat.le_succ _
  have free : H (h0.objs.size + 1) = none := I.hok.fresh le
  have z := q _ free
  have keep : ∀ b o, h0.get? b = some o → ((h0.push (PySem.W.kdv_tup [])).push (PySem.HandSPX.excO C h0.objs.size)).get? b = some o :=
    fun b o eb => Heap.get?_push_of_some _ (Heap.get?_push_of_some _ eb)
  have there : ((h0.push (PySem.W.kdv_tup [])).push (PySem.HandSPX.excO C h0.objs.size)).get? (h0.objs.size + 1) = some (PySem.HandSPX.excO C h0.objs.size) := by heap_get
  have J : Inv X pins σ (upd H (h0.objs.size + 1) (exo (h0.objs.size + 1) C none)) ⟨(h0.push (PySem.W.kdv_tup [])).push (PySem.HandSPX.excO C h0.objs.size), g0, d0, t0, o0⟩ :=
    I.laid (t' := t0) (h' := (h0.push (PySem.W.kdv_tup [])).push (PySem.HandSPX.excO C h0.objs.size)) (o := exo (h0.objs.size + 1) C none) (a := h0.objs.size + 1) keep le (exo_ok there)
  have rr := hb.rel (.cons rfl .nil : Vals [V.ref (h0.objs.size + 1)] [Value.ref (h0.objs.size + 1)]) r
  have lw : ws.length = ks.length := r.length.symm.trans lz
  refine wpAny_call (EW.call_kw PySem.F.excBase_ValueError (fun Y => PySem.HandSPX.refsVE_contains Y bm hbm) (I.kIn _ _ hC) (PySem.W.looks_findIn I.kIn iC) (fun self => PySem.W.bind_fn I.kIn self tI)
    (codeAny_mono (F.run _ X.stack _ _ ⟨[Value.ref (h0.objs.size + 1)], ks.zip ws⟩ (gN [Value.ref (h0.objs.size + 1)] ws) _ _ (fun _ _ _ => False) (hr.make C [] (ks.zip ws)) (J.env0.make C [] (ks.zip ws)) (hb.to _ [Value.ref (h0.objs.size + 1)] ws J.kIn rfl lw) rr z) fun w s' y => ?_))
  match w, y with
  | .error er, y => exact hx pins σ _ _ er s' J y
  | .ok (.ret u), y =>
    obtain ⟨v, H2, K2, rv, ev, y2⟩ := J.after y
    subst ev
    exact ⟨rv, .ref (h0.objs.size + 1), H2, K2, rfl, y2⟩
theorem pe_errK (T : OexC X.K C) (iC : PySem.W.findIn X.K (.ref C) "__init__" = some (some (.ref fI))) (tI : PySem.W.typeIn X.K (.ref fI) = some (.type "function"))
    (F : FnOk X.prog X.w X.K X.mg X.base CX k fI fd ps sp) (hr : Room (k + 1) X.A) (hb : KBn X.K fd ps 1 ks gN gV) (hx : Passes CX X (fun _ _ _ => False)) (hg : Gl X x) (hm : X.mg x = some (.ref C)) (hkw : PK X kws tk)
    (all : (backToKw pos (keywordEach kws X.env)).all (·.1.isSome) = true := by rfl) (hks : (backToKw pos (keywordEach kws X.env)).filterMap (·.1) = ks := by rfl) (nd : (x == ("__debug__" : Str)) = false := by decide)
    (pl : ((backTo pos (starEach [] X.env)).any (·.1) || (backToKw pos (keywordEach kws X.env)).any (·.1.isNone)) = false := by rfl) :
    PE X (.Call (.Name x p) [] kws pos) (tErrK C ks.length sp gV tk) := by
  refine ⟨fun pins s σ H Q I h => ?_⟩
  refine wpAny_Call_Name_kw (ld_glob I hg hm ?_ nd)
  refine PySem.W.callWith_KW0 (h₀ := X.base) I.ok.mod.kin T.kC all ?_ pl
  refine thn (hkw.run pos pins s σ H _ I h) fun ws s1 ⟨zs, H1, I1, r, lz, q⟩ => ⟨I1.kIn, ?_⟩
  rw [hks]
  exact run_errK T iC tI F hr hb hx I1 r lz q
/-- C() of an error class without an own __init__, as a value -/
theorem pe_exc0 {bmB : List Value} {B newId initId : String} (F : ExcBaseFacts B newId initId bmB) (q : PySem.W.excIn X.K C bmB newId = true) (gC : X.mg x = some (.ref C)) (kC : PySem.W.keepIn X.K (.ref C) = true) (hg : Gl X x)
    (nd : (x == ("__debug__" : Str)) = false := by decide) : PE X (.Call (.Name x p) [] [] pos) (fun _ H Q => ∀ a, H a = none → Q (.ref a) (upd H a (errV a (.ref C) none))) := by
  refine ⟨fun pins s σ H Q I h => ?_⟩
  refine wpAny_Call_Name_kw (ld_glob I hg gC ?_ nd)
  refine PySem.W.callWith_K0 I.kIn kC ?_
  show wpAny _ _ (call (.ref C) []) _ _ _
  obtain ⟨bm, N, nm, qn, bs, hdct, sn, sub, ab, col, dd, k0, k1, k2, k3, k5, mN, hC, hN, hni, T⟩ := exc_obj I.kIn q
  refine wpAny_call_exc_subT F T hC hN hni (fun h' a hm => ?_) (Nat.zero_le _)
  have na : H a = none := I.hok.gone hm.new
  obtain ⟨t, ht, _, _⟩ := hm.there
  exact ⟨.ref a, _, I.laidN hm.keeps hm.new na (errV_ok ht ⟨rfl, rfl⟩ ⟨_, rfl⟩), rfl, h a na⟩
end
end CP
namespace CP
open L2 PySem PyProof.Rows
/-- what the written part says of an error class with one field and an own __init__ -/
structure ErrCls (K : PySem.W.Frag) (C fI : Addr) (f : Str) : Prop where
  ox : OexC K C
  ini : PySem.W.findIn K (.ref C) "__init__" = some (some (.ref fI))
  fn : PySem.W.typeIn K (.ref fI) = some (.type "function")
  xf : XfC K C
  ec : ExcC K C
  no : PySem.W.findIn K (.ref C) f = some none
/-- positional values, then keywords, nothing left to the defaults -/
theorem FunD.kbn {K : PySem.W.Frag} {x qual : Str} {params : Arguments} {body : List Stmt} {scope : Scope} {dvs : List V} {f : Addr} {fd : FuncData} {ps ks : List Str} {n : Nat} {g : List Value → List Value → List Value} {gV : List V → List V → List V} (F : FunD K x qual params body scope dvs [] f fd) (hd : dvs ≠ [])
    (h : ∀ (T : Addr) (kV doc pm : Value) (an : Option Addr) (cdv ct : Value) (its us ws : List Value), its.length = dvs.length → us.length = n → ws.length = ks.length →
      ∃ k, bindArgs (PySem.W.fnOf x qual params body scope (.ref T) kV doc pm an cdv ct) ⟨us, ks.zip ws⟩ = seqItems? (.ref T) >>= k ∧ k (some its.toArray) = pure (ps.zip (g us ws)))
    (hr : ∀ {vs : List V} {us : List Value} {zs : List V} {ws : List Value}, Vals vs us → Vals zs ws → Vals (gV vs zs) (g us ws)) : KBn K fd ps n ks g gV := by
  obtain ⟨oc, od, dV, kV, doc, pm, an, cdv, ct, osl, rfl, lk, hcd, hD, hK⟩ := F.ex
  rcases hD with ⟨e, _⟩ | ⟨_, T, o, its, m, rfl, lT, oT, rT⟩
  · exact absurd e hd
  · refine ⟨fun s us ws X l1 l2 => ?_, hr⟩
    obtain ⟨k, e1, e2⟩ := h T kV doc pm an cdv ct its us ws rT.length.symm l1 l2
    refine BindsTo.of_looks fun M => ?_
    rw [e1]
    exact looks_items X lT oT (.of_pure e2)
end CP
namespace CP
open L2 PySem PyProof.Rows
def tExc0 (C : Addr) : TE := fun _ H Q => ∀ a, H a = none → Q (.ref a) (upd H a (errV a (.ref C) none))
section
variable {K : PySem.W.Frag} {σ : L2.St} {H : Hp} {Q : VK} {ta tk : TA} {te to : TE} {f : Str} {C : Addr} {sp : Sp} {dvs : List V} {m : Nat} {gV : List V → List V → List V} {D : Ends}
theorem r_veI (q : ta σ H fun vs H1 => ∃ (a C : Addr) (ws : List V), vs = .ref a :: ws ∧ ws.length ≤ 1000 ∧ OexC K C ∧ H1 a = some (exo a C none) ∧ Q .non H1) : tVeI K ta σ H Q := q
theorem r_ost (q : te σ H fun y H1 => to σ H1 fun x H2 => ∃ a C : Addr, x = .ref a ∧ OexC K C ∧ PySem.W.findIn K (.ref C) f = some none ∧
    ((H2 a = some (exo a C none) ∧ ∀ dx, H2 dx = none → dx ≠ a → D.nx σ (upd (upd H2 dx (exd dx [(f, y)])) a (exo a C (some dx)))) ∨
      ∃ (dx : Addr) (fs : List (Str × V)), H2 a = some (exo a C (some dx)) ∧ H2 dx = some (exd dx fs) ∧ fs.length ≤ 900 ∧ D.nx σ (upd H2 dx (exd dx ((f, y) :: fs))))) : tOst K f to te D σ H := q
theorem r_err (q : ta σ H fun vs H1 => vs.length ≤ 1000 ∧ ∀ a, H1 a = none → sp (.ref a :: (vs ++ dvs)) (upd H1 a (exo a C none)) (fun v H2 => v = .non ∧ Q (.ref a) H2) (fun _ _ _ => False)) : tErr C sp dvs ta σ H Q := q
theorem r_errK (q : tk σ H fun zs H1 => zs.length = m ∧ ∀ a, H1 a = none → sp (gV [.ref a] zs) (upd H1 a (exo a C none)) (fun v H2 => v = .non ∧ Q (.ref a) H2) (fun _ _ _ => False)) : tErrK C m sp gV tk σ H Q := q
theorem r_exc0 (q : ∀ a, H a = none → Q (.ref a) (upd H a (errV a (.ref C) none))) : tExc0 C σ H Q := q
theorem r_errF (q : te σ H fun x H1 => ∃ (a D : Addr) (fs : List (Str × V)) (v : V), x = .ref a ∧ ErrK H1 a D fs ∧ XfC K D ∧ PySem.W.findIn K (.ref D) f = some none ∧ fs.lookup f = some v ∧ Q v H1) : tErrF K te f σ H Q := q
end
end CP

set_option Elab.async false
set_option linter.all false
set_option maxRecDepth 100000
set_option maxHeartbeats 4000000
set_option autoImplicit false
/-! a text times a number; int(x) -/
namespace CP
open L2 PySem PyProof.Rows
def oInt : List V → Hp → VK → Prop := fun xs H Q => (∃ i, xs = [.int i] ∧ Q (.int i) H) ∨ ∃ k, xs = [.bl k] ∧ Q (.int (if k then 1 else 0)) H
theorem r_oInt {i : Int} {H : Hp} {Q : VK} (q : Q (.int i) H) : oInt [.int i] H Q := .inl ⟨i, rfl, q⟩
def repS (x : Str) (n : Int) : Str := if n < 1 then Str.empty else if (n == 1 || x.length == 0) = true then x else ⟨(List.replicate n.toNat x.cps).foldl (· ++ ·) #[]⟩
def rRepS : R2 := fun x y H Q => ∃ z n, x = .str z ∧ y = .int n ∧ z.length ≤ 1000 ∧ 0 ≤ n ∧ n ≤ 1000 ∧ (repS z n).length ≤ sizeLine ∧ Q (.str (repS z n)) H
theorem op_repS {X : Cx} : OpR X (binaryOp .Mult) rRepS := by
  intro pins s σ H x y v u Q I rx ry h
  obtain ⟨z, n, rfl, rfl, hz, n0, n1, few, q⟩ := h
  obtain ⟨t, rfl⟩ := rx
  obtain ⟨t2, rfl⟩ := ry
  have nb : z.length * n.toNat ≤ 1000 * 1000 := Nat.mul_le_mul hz (by omega)
  refine PySem.P.mul_str (by rw [decide_eq_false (by omega), decide_eq_false (by omega)]; rfl) (fun h1 _ => ?_) (fun _ _ => ?_) ?_
  · have h2 : (1000 : Int) * 1000 ≤ 2 ^ 63 - 1 := by decide
    have h3 : (z.length : Int) * n ≤ 2 ^ 63 - 1 := by
      have : (z.length : Int) * n ≤ 1000 * 1000 := Int.mul_le_mul (by omega) n1 n0 (by decide)
      omega
    have := (Int.le_ediv_iff_mul_le (by omega : 0 < n)).mpr h3
    omega
  · have h5 : ¬ z.length * n.toNat > sizeLine := by
      have : sizeLine = 16777216 := rfl
      omega
    exact decide_eq_false h5
  · unfold repS at q few
    by_cases c1 : n < 1
    · rw [if_pos c1] at q few ⊢
      exact ⟨few, .str _, H, I.tok _, ⟨_, rfl⟩, q⟩
    · rw [if_neg c1] at q few ⊢
      by_cases c2 : (n == 1 || z.length == 0) = true
      · rw [if_pos c2] at q few ⊢
        exact ⟨.str _, H, I, ⟨_, rfl⟩, q⟩
      · rw [if_neg c2] at q few ⊢
        exact ⟨few, .str _, H, I.tok _, ⟨_, rfl⟩, q⟩
end CP

set_option Elab.async false
set_option linter.all false
set_option maxRecDepth 100000
set_option maxHeartbeats 4000000
set_option autoImplicit false
/-! which error class is which: a table of isinstance -/
namespace CP
open L2 PySem PyProof.Rows
/-- no class of cs is another's, all are b's and ValueErrors -/
def kitTab (K : PySem.W.Frag) (cs : List Addr) (b : Addr) : Bool :=
  (cs ++ [b]).zipIdx.all fun p => PySem.W.kitOne K (.ref p.1) (.type "ValueError") == some true && PySem.W.kitOne K (.ref p.1) (.ref b) == some true &&
    cs.zipIdx.all fun q => PySem.W.kitOne K (.ref p.1) (.ref q.1) == some (p.2 == q.2)
section
variable {K : PySem.W.Frag} {cs : List Addr} {b d c : Addr} {i j : Nat}
theorem kitTab.own (h : kitTab K cs b = true) (hi : (cs ++ [b])[i]? = some d) (hj : cs[j]? = some c) : PySem.W.kitOne K (.ref d) (.ref c) = some (i == j) := by
  unfold kitTab at h
  rw [List.all_eq_true] at h
  have h1 := h (d, i) (List.mem_zipIdx_iff_getElem?.mpr hi)
  simp only [Bool.and_eq_true, List.all_eq_true, beq_iff_eq] at h1
  exact h1.2 (c, j) (List.mem_zipIdx_iff_getElem?.mpr hj)
theorem kitTab.top (h : kitTab K cs b = true) (hi : (cs ++ [b])[i]? = some d) : PySem.W.kitOne K (.ref d) (.ref b) = some true ∧ PySem.W.kitOne K (.ref d) (.type "ValueError") = some true := by
  unfold kitTab at h
  rw [List.all_eq_true] at h
  have h1 := h (d, i) (List.mem_zipIdx_iff_getElem?.mpr hi)
  simp only [Bool.and_eq_true, List.all_eq_true, beq_iff_eq] at h1
  exact ⟨h1.1.2, h1.1.1⟩
end
/-- what the own __init__ of an error class promises, read behind the making -/
theorem made_errS {sp : Sp} {C : Addr} {f : Str} {v : V} {H : Hp} {Qa : Hp → Prop} {E : XK} {a : Addr}
    (hs : ∀ (H : Hp) (Q : VK), (H a = some (exo a C none) ∧ ∀ dx, H dx = none → dx ≠ a → Q .non (upd (upd H dx (exd dx [(f, v)])) a (exo a C (some dx)))) → sp [.ref a, v] H Q E)
    (n : H a = none) (q : ∀ H', Same H H' → ErrK H' a C [(f, v)] → Qa H') : sp [.ref a, v] (upd H a (exo a C none)) (fun x H2 => x = .non ∧ Qa H2) E := by
  refine hs _ _ ⟨upd_same, fun dx nd ne => ⟨rfl, q _ (fun b o e => ?_) ?_⟩⟩
  · have ba : b ≠ a := fun z => by subst z; rw [n] at e; cases e
    rw [upd_ne ne] at nd
    have bd : b ≠ dx := fun z => by subst z; rw [nd] at e; cases e
    rw [upd_ne ba, upd_ne bd, upd_ne ba]
    exact e
  · refine ⟨some dx, .inl upd_same, .inr ⟨dx, rfl, .inl ?_⟩⟩
    rw [upd_ne ne]
    exact upd_same
/-- an error without an own __init__ -/
theorem made_err0 {C : Addr} {H : Hp} {Q : VK} (q : ∀ a H', Same H H' → ErrK H' a C [] → Q (.ref a) H') {a : Addr} (n : H a = none) : Q (.ref a) (upd H a (errV a (.ref C) none)) :=
  q a _ (same_new n) ⟨none, .inr upd_same, .inl ⟨rfl, rfl⟩⟩
/-- these errors stand there, of these classes, each with these fields -/
def Errs (H : Hp) (cs : List Addr) (fs : List (List (Str × V))) (es : List Addr) : Prop := es.length = cs.length ∧ fs.length = cs.length ∧ ∀ (i : Nat) (e c : Addr) (f : List (Str × V)), es[i]? = some e → cs[i]? = some c → fs[i]? = some f → ErrK H e c f
theorem Errs.nil {H : Hp} : Errs H [] [] [] := ⟨rfl, rfl, fun i e c f h => by simp at h⟩
theorem Errs.mono {H H' : Hp} {cs : List Addr} {fs : List (List (Str × V))} {es : List Addr} (h : Errs H cs fs es) (s : Same H H') : Errs H' cs fs es := ⟨h.1, h.2.1, fun i e c f a b d => (h.2.2 i e c f a b d).mono s⟩
theorem Errs.snoc {H : Hp} {c e : Addr} {f : List (Str × V)} {cs es : List Addr} {fs : List (List (Str × V))} (t : Errs H cs fs es) (h : ErrK H e c f) : Errs H (cs ++ [c]) (fs ++ [f]) (es ++ [e]) := by
  obtain ⟨t1, t2, t3⟩ := t
  refine ⟨by simp [t1], by simp [t2], fun i e' c' f' a b d => ?_⟩
  by_cases hi : i < es.length
  · rw [List.getElem?_append_left hi] at a
    rw [List.getElem?_append_left (by omega)] at b d
    exact t3 i _ _ _ a b d
  · have hl : (es ++ [e]).length = es.length + 1 := by simp
    obtain ⟨z, _⟩ := List.getElem?_eq_some_iff.mp a
    have z1 : i - es.length = 0 := by omega
    have z2 : i - cs.length = 0 := by omega
    have z3 : i - fs.length = 0 := by omega
    rw [List.getElem?_append_right (by omega), z1] at a
    rw [List.getElem?_append_right (by omega), z2] at b
    rw [List.getElem?_append_right (by omega), z3] at d
    cases a; cases b; cases d
    exact h
/-- the fields of the thirteen errors that keep something -/
def fldsK (v : V) : List (List (Str × V)) := List.replicate 11 [(("value" : Str), v)] ++ [[(("name" : Str), v)], [(("place" : Str), v)]]
end CP

set_option Elab.async false
set_option linter.all false
set_option maxRecDepth 100000
set_option maxHeartbeats 4000000
set_option autoImplicit false
/-! repr of data in which dicts stand -/
namespace CP
open L2 PySem PyProof.Rows
def kD : Key → PyData
  | .inl i => .int i
  | .inr x => .str x
mutual
inductive DpD (H : Hp) : V → PyData → Prop
  | non : DpD H .non .none
  | bl (b : Bool) : DpD H (.bl b) (.bool b)
  | int (i : Int) : DpD H (.int i) (.int i)
  | str (x : Str) : DpD H (.str x) (.str x)
  | lst {a : Addr} {xs : List V} {ds : List PyData} : Rd H a (.lst xs) → a ≠ sysModules → DpDs H xs ds → DpD H (.ref a) (.list ds)
  | tup {a : Addr} {xs : List V} {ds : List PyData} : Rd H a (.tup xs) → DpDs H xs ds → DpD H (.ref a) (.tuple ds)
  | dct {a : Addr} {kvs : List (Key × V)} {ds : List PyData} : Rd H a (.dK kvs) → DpDs H (kvs.map (·.2)) ds → DpD H (.ref a) (.dict ((kvs.map fun p => kD p.1).zip ds))
inductive DpDs (H : Hp) : List V → List PyData → Prop
  | nil : DpDs H [] []
  | cons {v : V} {vs : List V} {d : PyData} {ds : List PyData} : DpD H v d → DpDs H vs ds → DpDs H (v :: vs) (d :: ds)
end
theorem DpDs.len {H : Hp} {vs : List V} {ds : List PyData} (h : DpDs H vs ds) : vs.length = ds.length := by
  induction vs generalizing ds with
  | nil => cases h; rfl
  | cons v vs ih => cases h with | cons _ t => simp [ih t]
theorem DpDs.rep {H : Hp} {v : V} {d : PyData} (h : DpD H v d) : ∀ n : Nat, DpDs H (List.replicate n v) (List.replicate n d)
  | 0 => .nil
  | n + 1 => .cons h (DpDs.rep h n)
theorem rd_mono {H H' : Hp} {a : Addr} {o : HO} (s : Same H H') (h : Rd H a o) : Rd H' a o := by
  rcases h with h | ⟨u, h⟩
  · exact .inl (CP.Same.to s h)
  · exact .inr ⟨u, CP.Same.to s h⟩
mutual
theorem DpD.mono {H H' : Hp} (s : Same H H') : ∀ {v : V} {d : PyData}, DpD H v d → DpD H' v d
  | _, _, .non => .non
  | _, _, .bl b => .bl b
  | _, _, .int i => .int i
  | _, _, .str x => .str x
  | _, _, .lst r n h => .lst (rd_mono s r) n (DpDs.mono s h)
  | _, _, .tup r h => .tup (rd_mono s r) (DpDs.mono s h)
  | _, _, .dct r h => .dct (rd_mono s r) (DpDs.mono s h)
theorem DpDs.mono {H H' : Hp} (s : Same H H') : ∀ {v : List V} {d : List PyData}, DpDs H v d → DpDs H' v d
  | _, _, .nil => .nil
  | _, _, .cons a b => .cons (DpD.mono s a) (DpDs.mono s b)
end
theorem kD_reads {h : Heap} {k : Key} {v : Value} (z : keyIs k v = true) : Reads h v (kD k) [] := by
  rcases keyIs_shape z with ⟨i, t, rfl, rfl⟩ | ⟨x, t, rfl, rfl⟩
  · exact .int i t
  · exact .str x t
theorem keys_reads {P : Program} {w : World} {h : Heap} {es : List DictEntry} {vs : List (Key × Value)} (q : Pairs (mixKind P w) es vs) : ReadsAll h (es.map (·.key)) (vs.map fun p => kD p.1) [] := by
  induction q with
  | nil => exact .nil
  | cons a b _ ih => exact ReadsAll.cons (as := []) (bs := []) (kD_reads a) ih
theorem vals_eq {P : Program} {w : World} {es : List DictEntry} {vs : List (Key × Value)} (q : Pairs (mixKind P w) es vs) : es.map (·.val) = vs.map (·.2) := by
  induction q with
  | nil => rfl
  | cons a b _ ih => simp [b, ih]
theorem kv_keys {kvs : List (Key × V)} {vs : List (Key × Value)} (q : KV kvs vs) : (vs.map fun p => kD p.1) = kvs.map fun p => kD p.1 := by
  unfold KV at q
  induction q with
  | nil => rfl
  | cons a _ ih => simp [a.1, ih]
theorem kv_vals {kvs : List (Key × V)} {vs : List (Key × Value)} (q : KV kvs vs) : Vals (kvs.map (·.2)) (vs.map (·.2)) := by
  unfold KV at q
  induction q with
  | nil => exact .nil
  | cons a _ ih => exact .cons a.2 ih
section
variable {X : Cx} {pins : List (Addr × Obj)} {σ : L2.St} {H : Hp} {s : Shared}
mutual
theorem DpD.reads (I : Inv X pins σ H s) : ∀ {v : V} {d : PyData} (u : Value), DpD H v d → RelV v u → ∃ as, Reads s.heap u d as ∧ sysModules ∉ as
  | _, _, _, .non, r => by cases r; exact ⟨_, .none, (by simp)⟩
  | _, _, _, .bl b, r => by cases r; exact ⟨_, .bool b, (by simp)⟩
  | _, _, _, .int i, r => by obtain ⟨t, rfl⟩ := r; exact ⟨_, .int i t, (by simp)⟩
  | _, _, _, .str x, r => by obtain ⟨t, rfl⟩ := r; exact ⟨_, .str x t, (by simp)⟩
  | _, _, _, .lst hs ne ha, r => by
    cases r
    obtain ⟨its, rv, ⟨o, n, ho, hc, _, hd⟩, _⟩ := I.list (.inl hs)
    obtain ⟨as, hr, tk⟩ := DpDs.reads I its ha rv
    exact ⟨_, Reads.list ho hc hd hr, fun z => (List.mem_cons.mp z).elim (fun e => ne e.symm) tk⟩
  | _, _, _, .tup hs ha, r => by
    cases r
    obtain ⟨its, rv, ⟨o, ho, hc, n, hd⟩, _⟩ := I.tuple (.inl hs)
    obtain ⟨as, hr, tk⟩ := DpDs.reads I its ha rv
    exact ⟨_, Reads.tuple ho hc hd hr, tk⟩
  | _, _, _, .dct (kvs := kvs) (ds := ds) hs ha, r => by
    cases r
    obtain ⟨_, na, vs, q, o, es, ep, e, ed, hd, _, pr, _⟩ := dk_rd I.hok hs
    obtain ⟨as, hr, tk⟩ := DpDs.reads I _ ha (kv_vals q)
    have hk := keys_reads (h := s.heap) pr
    rw [kv_keys q] at hk
    rw [← vals_eq pr] at hr
    have ln : (kvs.map fun p => kD p.1).length = ds.length := by
      have := ha.len
      simp at this ⊢
      exact this
    refine ⟨_, Reads.dict (as := []) (bs := as) e ?_ hd ?_ ?_, ?_⟩
    · exact ed.1
    · rw [List.map_fst_zip (by omega)]; exact hk
    · rw [List.map_snd_zip (by omega)]; exact hr
    · intro z
      simp only [List.append_nil, List.cons_append, List.nil_append, List.mem_cons] at z
      rcases z with z | z
      · rw [← z] at na
        cases na
      · exact tk z
theorem DpDs.reads (I : Inv X pins σ H s) : ∀ {vs : List V} {ds : List PyData} (us : List Value), DpDs H vs ds → Vals vs us → ∃ as, ReadsAll s.heap us ds as ∧ sysModules ∉ as
  | _, _, _, .nil, r => by cases r; exact ⟨_, .nil, (by simp)⟩
  | _, _, _, .cons h1 h2, r => by
    cases r with
    | cons r1 r2 =>
      obtain ⟨as, q1, t1⟩ := DpD.reads I _ h1 r1
      obtain ⟨bs, q2, t2⟩ := DpDs.reads I _ h2 r2
      exact ⟨_, .cons q1 q2, fun z => (List.mem_append.mp z).elim t1 t2⟩
end
/-- repr of such data -/
def rReprD (K : PySem.W.Frag) : List V → Hp → VK → Prop := fun xs H Q => ∃ a d, xs = [.ref a] ∧ ((Dp K H (.ref a) d ∧ d.hasDict = false) ∨ DpD H (.ref a) d) ∧ d.showable = true ∧ d.depth ≤ 60 ∧ d.shown.length ≤ sizeLine ∧ Q (.str d.shown) H
theorem call_reprDD (gd : Gd X.A) (hu : X.A.units + 64 < cLine) : CallR X (.builtin "repr") (rReprD X.K) := by
  intro pins s σ H xs us Q I r h
  obtain ⟨a, d, rfl, hd, hs, h6, hz, q⟩ := h
  obtain ⟨u, rfl, ru⟩ := vals1 r
  have key : ∃ as, Reads s.heap u d as ∧ (d.hasDict = true → sysModules ∉ as) := by
    rcases hd with ⟨hd, hn⟩ | hd
    · obtain ⟨as, rd⟩ := Dp.reads I d _ u hd ru
      exact ⟨as, rd, fun z => by rw [hn] at z; cases z⟩
    · obtain ⟨as, rd, tk⟩ := hd.reads I u ru
      exact ⟨as, rd, fun _ => tk⟩
  obtain ⟨as, rd, tk⟩ := key
  cases (show u = Value.ref a from ru)
  exact repr_of_reads' rd hs tk gd (by omega) (fun _ _ z => z) (fun h' v tk keep => ⟨.str d.shown, H, inv_grow I keep (Same.refl _) (fun _ _ z => .inl z), ⟨_, rfl⟩, q⟩) hz
/-- repr of any such data, flat or not -/
def rReprA (K : PySem.W.Frag) : List V → Hp → VK → Prop := fun xs H Q => ∃ v d, xs = [v] ∧ ((Dp K H v d ∧ d.hasDict = false) ∨ DpD H v d) ∧ d.showable = true ∧ d.depth ≤ 60 ∧ d.shown.length ≤ sizeLine ∧ Q (.str d.shown) H
theorem call_reprA (gd : Gd X.A) (hu : X.A.units + 64 < cLine) : CallR X (.builtin "repr") (rReprA X.K) := by
  intro pins s σ H xs us Q I r h
  obtain ⟨v, d, rfl, hd, hs, h6, hz, q⟩ := h
  obtain ⟨u, rfl, ru⟩ := vals1 r
  have key : ∃ as, Reads s.heap u d as ∧ (d.hasDict = true → sysModules ∉ as) := by
    rcases hd with ⟨hd, hn⟩ | hd
    · obtain ⟨as, rd⟩ := Dp.reads I d _ u hd ru
      exact ⟨as, rd, fun z => by rw [hn] at z; cases z⟩
    · obtain ⟨as, rd, tk⟩ := hd.reads I u ru
      exact ⟨as, rd, fun _ => tk⟩
  obtain ⟨as, rd, tk⟩ := key
  have on : ∀ {a : Addr}, u = .ref a → wpAny (model X.prog X.w) X.A (call (.builtin "repr") [u]) (EP X pins σ Q) X.xe s := fun {a} e => by
    subst e
    exact repr_of_reads' rd hs tk gd (by omega) (fun _ _ z => z) (fun h' v tk keep => ⟨.str d.shown, H, inv_grow I keep (Same.refl _) (fun _ _ z => .inl z), ⟨_, rfl⟩, q⟩) hz
  cases rd with
  | none => exact PySem.P.repr_of_none ⟨.str _, H, I.tok _, ⟨_, rfl⟩, q⟩
  | bool b => exact PySem.P.repr_of_bool ⟨.str _, H, I.tok _, ⟨_, rfl⟩, q⟩
  | int i t => exact PySem.P.repr_of_int (by simpa [PyData.showable] using hs) ⟨.str _, H, I.tok _, ⟨_, rfl⟩, q⟩
  | str x t => exact PySem.P.repr_of_str ⟨.str _, H, I.tok _, ⟨_, rfl⟩, q⟩ hz
  | list _ _ _ _ => exact on rfl
  | tuple _ _ _ _ => exact on rfl
  | dict _ _ _ _ _ => exact on rfl
/-- list + list, list * int: the new list is not the table of modules -/
def rCatX : R2 := fun x y H Q => ∃ l b xs zs, x = .ref l ∧ y = .ref b ∧ H l = some (.lst xs) ∧ H b = some (.lst zs) ∧ xs.length + zs.length ≤ sizeLine ∧ ∀ p, p ≠ sysModules → H p = none → Q (.ref p) (upd H p (.lst (xs ++ zs)))
theorem new_ne (I : Inv X pins σ H s) : s.heap.objs.size ≠ sysModules := fun e => by
  have := I.big
  rw [e] at this
  exact Nat.lt_irrefl _ this
theorem op_catX : OpR X (binaryOp .Add) rCatX := by
  intro pins s σ H x y v u Q I rx ry ⟨l, b, xs, zs, e1, e2, hl, hb, sz, q⟩
  subst e1 e2
  cases rx
  cases ry
  obtain ⟨_, i1, n1, r1, l1, g1⟩ := I.lstM hl
  obtain ⟨_, i2, n2, r2, l2, g2⟩ := I.lstM hb
  refine PySem.P.add_list g1 g2 ?_ (by simp only [List.size_toArray]; omega)
  rw [show i1.toArray ++ i2.toArray = (i1 ++ i2).toArray by simp]
  exact ⟨.ref _, _, I.lnew (t' := s.toks) (r1.append r2) (by simp only [List.length_append]; omega), rfl, q _ (new_ne I) I.fresh⟩
def rRepX : R2 := fun x y H Q => ∃ l k xs, x = .ref l ∧ y = .int k ∧ H l = some (.lst xs) ∧ 0 ≤ k ∧ k < 2 ^ 63 ∧ xs.length * k.toNat ≤ sizeLine ∧ ∀ p, p ≠ sysModules → H p = none → Q (.ref p) (upd H p (.lst (List.replicate k.toNat xs).flatten))
theorem op_repX : OpR X (binaryOp .Mult) rRepX := by
  intro pins s σ H x y v u Q I rx ry ⟨l, k, xs, e1, e2, hl, k0, k1, sz, q⟩
  subst e1 e2
  cases rx
  obtain ⟨tk, rfl⟩ := ry
  obtain ⟨_, its, n, rv, ll, g⟩ := I.lstM hl
  have sz' : its.toArray.size * k.toNat ≤ sizeLine := by simp only [List.size_toArray]; rw [← ll]; exact sz
  have cap : ¬ its.toArray.size * k.toNat > (2 ^ 63 - 1) / 8 := fun z => by
    have : (sizeLine : Nat) ≤ (2 ^ 63 - 1) / 8 := by decide
    omega
  have fits : ¬ (!Builtin.List.listFitsIndex k) = true := by rw [fitsIndex_both (by omega) k1]; simp
  have short : ¬ Builtin.List.listTooLong (its.toArray.size * k.toNat) = true := by rw [notLongL sz']; simp
  have made : List.foldl (fun y z => y ++ z) #[] (List.replicate (if its.toArray.isEmpty = true then 0 else k.toNat) its.toArray) = (List.replicate k.toNat its).flatten.toArray := by
    have all : ∀ m : Nat, List.foldl (fun y z => y ++ z) #[] (List.replicate m its.toArray) = (List.replicate m its).flatten.toArray := fun m => by
      simpa using foldl_rep its m []
    rw [all]
    cases its <;> simp
  refine wpAny_binaryOp_repeat_ref (T := "list") (U := "int") (by decide) ⟨_, g, rfl⟩ (fun s' => typeIs_int s' k tk) noFill_list_mul F.fills_int_mul F.slot_int_rmul repeat_list
    F.slot_int_index.lookup (call_meets F.slot_int_rmul (typeIs_int s k tk) F.entry_int_rmul (F.args_int_rmul_2 _ _) (int___rmul___int_list k tk l its.toArray n)
      ⟨g, rfl, ⟨_, g, rfl⟩, call_meets F.slot_list_mul ⟨_, g, rfl⟩ F.entry_list_mul (F.args_list_mul_2 _ _) (AutoListH.list___mul___list_int_3 l its.toArray n k tk fits cap short) ⟨g, ?_⟩⟩)
  rw [made]
  exact ⟨.ref _, _, I.lnew (t' := s.toks) (rv.rep k.toNat) (by rw [PyProof.Rows.lm_len_rep_flat, Nat.mul_comm]; exact sz), rfl, q _ (new_ne I) I.fresh⟩
end
theorem r_catX {H : Hp} {Q : VK} {l b : Addr} {xs zs : List V} (h : H l = some (.lst xs)) (g : H b = some (.lst zs)) (sz : xs.length + zs.length ≤ sizeLine) (q : ∀ p H', p ≠ sysModules → Same H H' → H' p = some (.lst (xs ++ zs)) → Q (.ref p) H') : rCatX (.ref l) (.ref b) H Q :=
  ⟨l, b, xs, zs, rfl, rfl, h, g, sz, fun p ne n => q p _ ne (same_new n) upd_same⟩
theorem r_repX {H : Hp} {Q : VK} {l : Addr} {xs : List V} {k : Int} (h : H l = some (.lst xs)) (k0 : 0 ≤ k) (k1 : k < 2 ^ 63) (sz : xs.length * k.toNat ≤ sizeLine) (q : ∀ p H', p ≠ sysModules → Same H H' → H' p = some (.lst (List.replicate k.toNat xs).flatten) → Q (.ref p) H') : rRepX (.ref l) (.int k) H Q :=
  ⟨l, k, xs, rfl, rfl, h, k0, k1, sz, fun p ne n => q p _ ne (same_new n) upd_same⟩
/-- data that repr shows in few signs -/
structure Shw (d : PyData) : Prop where
  show_ : d.showable = true
  flat : d.depth ≤ 3
  short : PyData.leavesShort 40 d = true
  light : d.weight ≤ 500
/-- the same, somewhat more -/
structure ShwW (d : PyData) : Prop where
  show_ : d.showable = true
  flat : d.depth ≤ 3
  short : PyData.leavesShort 40 d = true
  light : d.weight ≤ 1000
theorem Shw.w {d : PyData} (h : Shw d) : ShwW d := ⟨h.show_, h.flat, h.short, Nat.le_trans h.light (by decide)⟩
theorem showA_app : ∀ (a b : List PyData), PyData.showableAll (a ++ b) = (PyData.showableAll a && PyData.showableAll b)
  | [], b => by simp [PyData.showableAll]
  | x :: a, b => by simp [PyData.showableAll, showA_app a b, Bool.and_assoc]
theorem shortA_app (B : Nat) : ∀ (a b : List PyData), PyData.leavesShortAll B (a ++ b) = (PyData.leavesShortAll B a && PyData.leavesShortAll B b)
  | [], b => by simp [PyData.leavesShortAll]
  | x :: a, b => by simp [PyData.leavesShortAll, shortA_app B a b, Bool.and_assoc]
theorem dictA_app : ∀ (a b : List PyData), PyData.hasDictAll (a ++ b) = (PyData.hasDictAll a || PyData.hasDictAll b)
  | [], b => by simp [PyData.hasDictAll]
  | x :: a, b => by simp [PyData.hasDictAll, dictA_app a b, Bool.or_assoc]
theorem depthA_app : ∀ (a b : List PyData), PyData.depthAll (a ++ b) = max (PyData.depthAll a) (PyData.depthAll b)
  | [], b => by simp [PyData.depthAll]
  | x :: a, b => by simp only [List.cons_append, PyData.depthAll, depthA_app a b]; omega
theorem weightA_app : ∀ (a b : List PyData), PyData.weightAll (a ++ b) = PyData.weightAll a + PyData.weightAll b
  | [], b => by simp [PyData.weightAll]
  | x :: a, b => by simp only [List.cons_append, PyData.weightAll, weightA_app a b]; omega
theorem DpA_app {K : PySem.W.Frag} {H : Hp} {xs ys : List V} {ds es : List PyData} (h : DpAll K H xs ds) (g : DpAll K H ys es) : DpAll K H (xs ++ ys) (ds ++ es) := by
  induction xs generalizing ds with
  | nil => cases h; exact g
  | cons x xs ih => cases h with | cons a b => exact .cons a (ih b)
theorem Shw.later {ds : List PyData} (h : Shw (.list ds)) : ShwW (.list (ds ++ [.str "later"])) := by
  obtain ⟨a, b, c, d⟩ := h
  refine ⟨?_, ?_, ?_, ?_⟩
  · simp only [PyData.showable] at a ⊢
    rw [showA_app, a]; rfl
  · simp only [PyData.depth] at b ⊢
    rw [depthA_app]
    simp only [PyData.depthAll, PyData.depth]
    omega
  · simp only [PyData.leavesShort] at c ⊢
    rw [shortA_app, c]; decide +kernel
  · simp only [PyData.weight] at d ⊢
    rw [weightA_app]
    have : PyData.weightAll [PyData.str "later"] = 6 := by decide +kernel
    omega
/-- what an error may be given: it is not a list and stays what it is, or a list -/
def ThingT (K : PySem.W.Frag) (H : Hp) (v : V) : Prop := ∃ (d : PyData) (n : String), Shw d ∧ n ∈ ["NoneType", "bool", "int", "str", "tuple", "dict"] ∧ ∀ H', Same H H' → TK K H' v n ∧ ((Dp K H' v d ∧ d.hasDict = false) ∨ DpD H' v d)
def ThingL (K : PySem.W.Frag) (H : Hp) (v : V) : Prop := ∃ (a : Addr) (xs : List V) (ds : List PyData), v = .ref a ∧ H a = some (.lst xs) ∧ xs.length ≤ 3 ∧ Shw (.list ds) ∧ PyData.hasDictAll ds = false ∧ ∀ H', (∀ b o, b ≠ a → H b = some o → H' b = some o) → DpAll K H' xs ds
theorem shw_int {i : Int} (h : i.natAbs < 10 ^ 30) : Shw (.int i) ∧ (PyData.int i).weight ≤ 111 := by
  have l : i.natAbs.log2 < 110 := by
    by_cases z : i.natAbs = 0
    · rw [z]; decide
    · have : i.natAbs < 2 ^ 110 := Nat.lt_trans h (by decide)
      exact (Nat.log2_lt z).mpr this
  have w : (PyData.int i).weight ≤ 111 := by
    simp only [PyData.weight]
    split <;> omega
  refine ⟨⟨?_, by simp [PyData.depth], ?_, by omega⟩, w⟩
  · simp only [PyData.showable, decide_eq_true_eq]
    omega
  · have e := int_text_length_le10 (k := 30) (a := i) (by decide) h
    have e2 : (PyData.shown (.int i)).length = (toString i).length := PySem.ofString_length _
    simp only [PyData.leavesShort, decide_eq_true_eq]
    omega
theorem shw_list {i : Int} (h : Shw (.int i) ∧ (PyData.int i).weight ≤ 111) : Shw (.list [.int i]) := by
  obtain ⟨⟨a, b, c, _⟩, d⟩ := h
  refine ⟨?_, ?_, ?_, ?_⟩
  · simp [PyData.showable, PyData.showableAll] at a ⊢; exact a
  · simp [PyData.depth, PyData.depthAll]
  · simp [PyData.leavesShort, PyData.leavesShortAll] at c ⊢; exact c
  · simp only [PyData.weight, PyData.weightAll] at d ⊢; omega
theorem shw_tup {i : Int} (h : Shw (.int i) ∧ (PyData.int i).weight ≤ 111) : Shw (.tuple [.int i, .str "a"]) := by
  obtain ⟨⟨a, b, c, _⟩, d⟩ := h
  refine ⟨?_, ?_, ?_, ?_⟩
  · simp [PyData.showable, PyData.showableAll] at a ⊢; exact a
  · simp [PyData.depth, PyData.depthAll]
  · simp [PyData.leavesShort, PyData.leavesShortAll] at c ⊢; exact ⟨c, by decide +kernel⟩
  · simp only [PyData.weight, PyData.weightAll] at d ⊢
    have : (("a" : String) : Str).cps.size = 1 := by decide +kernel
    omega
theorem shw_dict {i : Int} (h : Shw (.int i) ∧ (PyData.int i).weight ≤ 111) : Shw (.dict [(.str "a", .int i)]) := by
  obtain ⟨⟨a, b, c, _⟩, d⟩ := h
  refine ⟨?_, ?_, ?_, ?_⟩
  · simp [PyData.showable, PyData.showableKv] at a ⊢; exact a
  · simp [PyData.depth, PyData.depthKv]
  · simp [PyData.leavesShort, PyData.leavesShortKv] at c ⊢; exact ⟨by decide +kernel, c⟩
  · simp only [PyData.weight, PyData.weightKv] at d ⊢
    have : (("a" : String) : Str).cps.size = 1 := by decide +kernel
    omega
theorem shw_nest {i : Int} (h : Shw (.int i) ∧ (PyData.int i).weight ≤ 111) : Shw (.list [.list [.int i], .none]) := by
  obtain ⟨⟨a, b, c, _⟩, d⟩ := h
  refine ⟨?_, ?_, ?_, ?_⟩
  · simp [PyData.showable, PyData.showableAll] at a ⊢; exact a
  · simp [PyData.depth, PyData.depthAll]
  · simp [PyData.leavesShort, PyData.leavesShortAll] at c ⊢; exact c
  · simp only [PyData.weight, PyData.weightAll] at d ⊢; omega
def ShwB (x : Str) : Bool := (PyData.str x).showable && decide ((PyData.str x).depth ≤ 3) && PyData.leavesShort 40 (.str x) && decide ((PyData.str x).weight ≤ 500) && decide (x.length ≤ 4)
theorem shw_b {x : Str} (h : ShwB x = true) : Shw (.str x) ∧ x.length ≤ 4 := by
  simp only [ShwB, Bool.and_eq_true, decide_eq_true_eq] at h
  exact ⟨⟨h.1.1.1.1, h.1.1.1.2, h.1.1.2, h.1.2⟩, h.2⟩
end CP

set_option Elab.async false
set_option linter.all false
set_option maxRecDepth 100000
set_option maxHeartbeats 4000000
set_option autoImplicit false
/-! errors raised: raise C(e), raise C(), methods that may raise, a try whose error is kept -/
namespace CP
open L2 PySem PyProof.Rows
/-- raise C(e, ..), C an error class with its own __init__; W: the wish -/
def tRaise (C : Addr) (sp : Sp) (dvs : List V) (ta : TA) (W : WX) : TS := fun _ σ H => tMkO C sp dvs ta σ H fun cls d H' => W cls d σ H'
/-- raise C() of an error class without one -/
def tRaise0 (C : Addr) (W : WX) : TS := fun _ σ H => W (.ref C) none σ H
/-- try: .. except c as (slot i): suite, nothing else leaves -/
def tTryK (K : PySem.W.Frag) (c : Value) (i : Nat) (ts : Addr → Value → Option Addr → TS) (W0 : WX) (tb : WX → TS) : TS := fun D τ G => tb (wKeep K c i ts W0 D) D τ G
def tMethSD (C : Addr) (m : Str) (sp : Sp) (dvs : List V) (E : L2.St → XK) (ta : TE) (t : TA) : TE := fun σ H Q => ta σ H fun x H1 => ∃ a dx fs, x = .ref a ∧ H1 a = some (.ins C dx fs) ∧ fs.lookup m = none ∧ t σ H1 fun vs H2 => sp (x :: (vs ++ dvs)) H2 Q (E σ)
section
variable {X : Cx} {CX : CXT} {C f : Addr} {k : Nat} {fd : FuncData} {ps : List Str} {sp : Sp} {ds : List Value} {dvs : List V} {x m : Str} {o e : Expr} {es : List Expr} {to : TE} {ta t : TA} {p apos pos : Pos} {W : WX} {E : L2.St → XK}
theorem ps_raiseK (hc : X.calm = true) (tk : Takes X W) (he : PMk X e (tMkO C sp dvs ta)) : PS X (.Raise (some e) none pos) (tRaise C sp dvs ta W) := ps_raise hc tk he
theorem pmk_exc0 {bmB : List Value} {B newId initId : String} (F : ExcBaseFacts B newId initId bmB) (q : PySem.W.excIn X.K C bmB newId = true) (gC : X.mg x = some (.ref C)) (kC : PySem.W.keepIn X.K (.ref C) = true) (r : Raises X (.ref C)) (hg : Gl X x)
    (nd : (x == ("__debug__" : Str)) = false := by decide) : PMk X (.Call (.Name x p) [] [] pos) (fun _ H Q => Q (.ref C) none H) := by
  intro pins s σ H Q I h
  refine wpAny_Call_Name_kw (ld_glob I hg gC ?_ nd)
  refine PySem.W.callWith_K0 I.kIn kC ?_
  show wpAny _ _ (call (.ref C) []) _ _ _
  obtain ⟨bm, N, nm, qn, bs, hdct, sn, sub, ab, col, dd, k0, k1, k2, k3, k5, mN, hC, hN, hni, T⟩ := exc_obj I.kIn q
  refine wpAny_call_exc_subT F T hC hN hni (fun h' a hm => ?_) (Nat.zero_le _)
  exact mk_of I hm r h (I.hok.gone hm.new)
theorem ps_raise0 (hc : X.calm = true) (tk : Takes X W) (he : PMk X e (fun _ H Q => Q (.ref C) none H)) : PS X (.Raise (some e) none pos) (tRaise0 C W) := ps_raise hc tk he
theorem pe_methSD {pl : Sem Bool} (he : PE X o to) (c : Cls X.K C) (hm : Meth X.K C m f) (F : FnOk X.prog X.w X.K X.mg X.base CX k f fd ps sp) (hr : Room k X.A) (hb : Binds X.K fd ps ds) (hd : Vals dvs ds) (hx : ∀ σ, PassesAt CX X σ (E σ)) (ha : PA X (e :: es) t)
    (hst : starEach (e :: es) X.env = (false, eval e X.env) :: starEach es X.env := by rfl) (hpl : (backTo pos (starEach es X.env)).any (·.1) = false := by rfl)
    (ht : eval (.Call (.Attribute o m apos) (e :: es) [] pos) X.env = (do
      let ov ← eval o X.env
      standAt apos.atName
      let (g, one) ← holding [ov] (getMethod ov m pl)
      callWith pos g one (backTo pos (starEach (e :: es) X.env)) (backToKw pos (keywordEach [] X.env))) := by rfl) :
    PE X (.Call (.Attribute o m apos) (e :: es) [] pos) (tMethSD C m sp dvs E to t) := by
  refine ⟨fun pins s σ H Q I h => ?_⟩
  refine PySem.W.methodCall_KW (pl := pl) (thn (he.run pins s σ H _ I h) fun u s1 ⟨v, H1, I1, rv, a, dx, fs, ev, ea, l, q⟩ => ?_) ht
  subst ev
  cases (show u = Value.ref a from rv)
  refine getmeth_ok I1 ea c hm l ?_
  refine PySem.W.callWith_K (first := [.ref a]) (h₀ := X.base) I.ok.mod.kin hm.kp (thn (ha.run pos pins s1 σ H1 _ I1 q) fun us s2 ⟨vs, H2, I2, r2, q2⟩ => ⟨I2.kIn, ?_⟩) hst hpl
  exact run_fnSD (us := .ref a :: us) (vs := .ref a :: vs) F hr hb hd (hx σ) I2 (.cons rfl r2) q2
theorem pe_methSD0 {pl : Sem Bool} (he : PE X o to) (c : Cls X.K C) (hm : Meth X.K C m f) (F : FnOk X.prog X.w X.K X.mg X.base CX k f fd ps sp) (hr : Room k X.A) (hb : Binds X.K fd ps ds) (hd : Vals dvs ds) (hx : ∀ σ, PassesAt CX X σ (E σ))
    (ht : eval (.Call (.Attribute o m apos) [] [] pos) X.env = (do
      let ov ← eval o X.env
      standAt apos.atName
      let (g, one) ← holding [ov] (getMethod ov m pl)
      callWith pos g one (backTo pos (starEach [] X.env)) (backToKw pos (keywordEach [] X.env))) := by rfl) :
    PE X (.Call (.Attribute o m apos) [] [] pos) (tMethSD C m sp dvs E to tNil) := by
  refine ⟨fun pins s σ H Q I h => ?_⟩
  refine PySem.W.methodCall_KW (pl := pl) (thn (he.run pins s σ H _ I h) fun u s1 ⟨v, H1, I1, rv, a, dx, fs, ev, ea, l, q⟩ => ?_) ht
  subst ev
  cases (show u = Value.ref a from rv)
  refine getmeth_ok I1 ea c hm l ?_
  exact PySem.W.callWith_K0 (first := [.ref a]) I1.kIn hm.kp (run_fnSD (us := [.ref a]) (vs := [.ref a]) F hr hb hd (hx σ) I1 (.cons rfl .nil) q)
end
section
variable {X : Cx} {x n : Str} {c : Value} {i : Nat} {body suite : List Stmt} {b0 : Stmt} {p1 p2 pos : Pos} {tb : WX → TS} {ts : Addr → Value → Option Addr → TS} {W0 : WX}
theorem ps_tryK (st : X.stack = X.env :: X.outer) (fr : X.env.frame = some X.env.locals) (nd : X.N.Nodup) (hi : X.N[i]? = some n) (ln : X.env.kindOf n = some .local) (hc : Names X x c) (hx : X.ex = []) (out : Takes X W0)
    (hb : ∀ (W : WX) (pn : List (Addr × Obj)) (xe : Value → Shared → Prop), Takes (X.tr pn xe) W → PassesOwn (model X.prog X.w) X.A X.env xe → PSs (X.tr pn xe) body (tb W))
    (hsu : ∀ (a : Addr) (oe : Obj) (cls : Value) (d : Option Addr) (pn : List (Addr × Obj)), Zc cls d oe → (∃ vs, oe.data = .fields vs) → PSs (X.suite a ((a, oe) :: pn)) (b0 :: suite) (ts a cls d)) :
    PS X (.Try body [.ExceptHandler (some (.Name x p1)) (some n) (b0 :: suite) p2] [] [] pos) (tTryK X.K c i ts W0 tb) := ps_try_keep st fr nd hi ln hc hx out hb hsu
end
section
variable {K : PySem.W.Frag} {σ : L2.St} {H : Hp} {Q : VK} {D : Ends} {C : Addr} {m f : Str} {sp : Sp} {dvs : List V} {E : L2.St → XK} {te : TE} {ta : TA} {W : WX} {c : Value} {i : Nat} {ts : Addr → Value → Option Addr → TS} {W0 : WX} {tb : WX → TS}
theorem r_callSD (q : ta σ H fun vs H1 => sp (vs ++ dvs) H1 Q (E σ)) : tCallSD sp dvs E ta σ H Q := q
theorem r_methSD (q : te σ H fun x H1 => ∃ a dx fs, x = .ref a ∧ H1 a = some (.ins C dx fs) ∧ fs.lookup m = none ∧ ta σ H1 fun vs H2 => sp (x :: (vs ++ dvs)) H2 Q (E σ)) : tMethSD C m sp dvs E te ta σ H Q := q
theorem r_raise0 (q : W (.ref C) none σ H) : tRaise0 C W D σ H := q
theorem r_tryK (q : tb (wKeep K c i ts W0 D) D σ H) : tTryK K c i ts W0 tb D σ H := q
theorem r_raise (q : ta σ H fun vs H1 => vs.length ≤ 1000 ∧ ∀ a, H1 a = none → sp (.ref a :: (vs ++ dvs)) (upd H1 a (exo a C none))
    (fun v H2 => v = .non ∧ ∃ (d : Addr) (fs : List (Str × V)), H2 a = some (exo a C (some d)) ∧ H2 d = some (exd d fs) ∧ H1 d = none ∧ W (.ref C) (some d) σ (upd (del H2 a) d (.xd fs))) (fun _ _ _ => False)) : tRaise C sp dvs ta W D σ H := q
/-- the making of an error that is raised -/
theorem made_raise {v : V} {Rs : Addr → Hp → Prop} {E' : XK} {a : Addr}
    (hs : ∀ (H : Hp) (Q : VK), (H a = some (exo a C none) ∧ ∀ dx, H dx = none → dx ≠ a → Q .non (upd (upd H dx (exd dx [(f, v)])) a (exo a C (some dx)))) → sp [.ref a, v] H Q E')
    (n : H a = none) (q : ∀ d H', H d = none → Same H H' → H' d = some (.xd [(f, v)]) → Rs d H') :
    sp [.ref a, v] (upd H a (exo a C none)) (fun x H2 => x = .non ∧ ∃ (d : Addr) (fs : List (Str × V)), H2 a = some (exo a C (some d)) ∧ H2 d = some (exd d fs) ∧ H d = none ∧ Rs d (upd (del H2 a) d (.xd fs))) E' := by
  refine hs _ _ ⟨upd_same, fun dx nd ne => ⟨rfl, dx, [(f, v)], upd_same, by rw [upd_ne ne]; exact upd_same, by rw [upd_ne ne] at nd; exact nd, ?_⟩⟩
  rw [upd_ne ne] at nd
  refine q dx _ nd (fun b o e => ?_) upd_same
  have ba : b ≠ a := fun z => by subst z; rw [n] at e; cases e
  have bd : b ≠ dx := fun z => by subst z; rw [nd] at e; cases e
  rw [upd_ne bd, del_ne ba, upd_ne ba, upd_ne bd, upd_ne ba]
  exact e
/-- what follows a kept error: the suite read with the error's name, then the rest -/
theorem r_keep {cls : Value} {d : Option Addr} {τ : L2.St} {G : Hp} (yes : PySem.W.exmOne K cls c = some true) (q : ∀ a, G a = none → ts a cls d (keepD D i a cls d) (τ.set i (some (.ref a))) G) : wKeep K c i ts W0 D cls d τ G :=
  ⟨true, yes, fun _ => q, fun z => by cases z⟩
end
/-- all these error classes are caught by the one above -/
def exmTab (K : PySem.W.Frag) (cs : List Addr) (b : Addr) : Bool := cs.all fun c => PySem.W.exmOne K (.ref c) (.ref b) == some true
theorem exmTab.of {K : PySem.W.Frag} {cs : List Addr} {b c : Addr} (h : exmTab K cs b = true) (m : c ∈ cs) : PySem.W.exmOne K (.ref c) (.ref b) = some true := by
  unfold exmTab at h
  rw [List.all_eq_true] at h
  exact beq_iff_eq.mp (h c m)
/-- the error kept behind the suite: it has its one field -/
theorem kept_one {G : Hp} {a D d : Addr} {fs : List (Str × V)} (n : G a = none) (h : G d = some (.xd fs)) : Same G (upd G a (errV a (.ref D) (some d))) ∧ ErrK (upd G a (errV a (.ref D) (some d))) a D fs := by
  have ne : d ≠ a := fun z => by subst z; rw [n] at h; cases h
  exact ⟨same_new n, some d, .inr upd_same, .inr ⟨d, rfl, .inr (by rw [upd_ne ne]; exact h)⟩⟩
theorem kept_none {G : Hp} {a D : Addr} (n : G a = none) : Same G (upd G a (errV a (.ref D) none)) ∧ ErrK (upd G a (errV a (.ref D) none)) a D [] :=
  ⟨same_new n, none, .inr upd_same, .inl ⟨rfl, rfl⟩⟩
theorem r_unI {H : Hp} {Q : VK} {i : Int} {g : Int → V} (q : Q (g i) H) : rU g (.int i) H Q := ⟨i, rfl, q⟩
/-- what follows is shown once, from P -/
theorem with_restE {t : TS} {D : Ends} {σ : L2.St} {H : Hp} (P : L2.St → Hp → Prop) (rest : ∀ σ H', P σ H' → D.nx σ H') (main : (∀ σ H', P σ H' → D.nx σ H') → t D σ H) : t D σ H := main rest
/-- isinstance of an error or of another value -/
def rIsi2 (K : PySem.W.Frag) : List V → Hp → VK → Prop := fun xs H Q => rErrIs K xs H Q ∨ rIsi K xs H Q
theorem call_isi2 {X : Cx} : CallR X (.builtin "isinstance") (rIsi2 X.K) := by
  intro pins s σ H xs us Q I r h
  rcases h with h | h
  · exact call_isErr pins s σ H xs us Q I r h
  · exact call_isi pins s σ H xs us Q I r h
/-- no value of a built-in kind is an error -/
def kinTab (K : PySem.W.Frag) (cs : List Addr) : Bool := kinds.all fun n => cs.all fun c => PySem.W.kitOne K (.type n) (.ref c) == some false
theorem r_isNo {K : PySem.W.Frag} {cs : List Addr} {H : Hp} {Q : VK} {x : V} {n : String} {c : Addr} (h : kinTab K cs = true) (tk : TK K H x n) (m : c ∈ cs) (q : Q (.bl false) H) : rIsi2 K [x, .ref c] H Q := by
  unfold kinTab at h
  rw [List.all_eq_true] at h
  have h1 := h n tk.1
  rw [List.all_eq_true] at h1
  exact .inr ⟨x, .ref c, _, _, false, rfl, .own c, tk.2, beq_iff_eq.mp (h1 c m), q⟩
theorem r_isYes {K : PySem.W.Frag} {H : Hp} {Q : VK} {a D c : Addr} {fs : List (Str × V)} {b : Bool} (h : ErrK H a D fs) (e : ExcC K D) (k : PySem.W.kitOne K (.ref D) (.ref c) = some b) (q : Q (.bl b) H) : rIsi2 K [.ref a, .ref c] H Q :=
  .inl ⟨a, D, fs, .ref c, .ref c, b, rfl, h, e, .own c, k, q⟩
end CP

set_option Elab.async false
set_option linter.all false
set_option maxRecDepth 100000
set_option maxHeartbeats 4000000
set_option autoImplicit false
/-! x not in (0, False) for x of any kind -/
namespace CP
open PySem L2 PySem.Spec PyProof.Rows PySem.SeqAt
section
variable {A : Around} {s : Shared}
theorem dict_no_int (l : Addr) (es : Array DictEntry) (n : Nat) (dd : Option Addr) (sl : Array (Option Value)) (b : Int) (u : Tok) :
    Meets (Builtin.«dict.__eq__» ⟨[.ref l, .int b u], []⟩) (fun _ R s => s.heap.get? l = some { cls := .type "dict", dict := dd, data := .dict es n, slots := sl } ∧ R (.ok (.ret .notImplemented)) s) :=
  .of_wp fun prog w A R s h => by
    obtain ⟨hp, g, d, tk, os⟩ := s
    obtain ⟨hl, h⟩ := h
    have f1 := F.sub_int_dict
    wp_walk using wpAny_loadPart' hl
    exact ⟨_, rfl, h⟩
theorem dict_no_bool (l : Addr) (es : Array DictEntry) (n : Nat) (dd : Option Addr) (sl : Array (Option Value)) (b : Bool) :
    Meets (Builtin.«dict.__eq__» ⟨[.ref l, .bool b], []⟩) (fun _ R s => s.heap.get? l = some { cls := .type "dict", dict := dd, data := .dict es n, slots := sl } ∧ R (.ok (.ret .notImplemented)) s) :=
  .of_wp fun prog w A R s h => by
    obtain ⟨hp, g, d, tk, os⟩ := s
    obtain ⟨hl, h⟩ := h
    have f1 := F.sub_bool_dict
    wp_walk using wpAny_loadPart' hl
    exact ⟨_, rfl, h⟩
theorem int_no_dict (b : Int) (u : Tok) (l : Addr) (es : Array DictEntry) (n : Nat) (dd : Option Addr) (sl : Array (Option Value)) :
    Meets (Builtin.«int.__eq__» ⟨[.int b u, .ref l], []⟩) (fun _ R s => s.heap.get? l = some { cls := .type "dict", dict := dd, data := .dict es n, slots := sl } ∧ R (.ok (.ret .notImplemented)) s) :=
  .of_wp fun prog w A R s h => by
    obtain ⟨hp, g, d, tk, os⟩ := s
    obtain ⟨hl, h⟩ := h
    wp_walk using wpAny_loadPart' hl, wpAny_load hl
    exact ⟨_, rfl, h⟩
theorem bool_no_dict (b : Bool) (l : Addr) (es : Array DictEntry) (n : Nat) (dd : Option Addr) (sl : Array (Option Value)) :
    Meets (Builtin.«int.__eq__» ⟨[.bool b, .ref l], []⟩) (fun _ R s => s.heap.get? l = some { cls := .type "dict", dict := dd, data := .dict es n, slots := sl } ∧ R (.ok (.ret .notImplemented)) s) :=
  .of_wp fun prog w A R s h => by
    obtain ⟨hp, g, d, tk, os⟩ := s
    obtain ⟨hl, h⟩ := h
    wp_walk using wpAny_loadPart' hl, wpAny_load hl
    exact ⟨_, rfl, h⟩
theorem rc_int_dict {l : Addr} {o : Obj} {es : Array DictEntry} {n : Nat} (b : Int) (u : Tok) (ho : s.heap.get? l = some o) (ex : o.ExactDict) (hd : o.data = .dict es n) (hu : A.units < cLine) : RcAt A s (.int b u) (.ref l) false := fun prog w E Q h => by
  obtain ⟨cls, dd, data, sl⟩ := o
  obtain ⟨h1, h2, h3⟩ := ex
  simp only at h1 h2 h3 hd
  subst h1 h2 h3 hd
  exact rc_eq_decline_or (k := false) (typeIs_int s b u) ⟨_, ho, rfl⟩ (by decide) F.sub_dict_int F.slot_int_eq F.slot_dict_eq_refl
    (fun _ q => call_meets F.slot_int_eq (typeIs_int s b u) F.entry_int_eq (F.args_int_eq_2 _ _) (int_no_dict b u l es n none #[]) ⟨ho, q⟩)
    (fun _ q => call_meets F.slot_dict_eq_refl ⟨_, ho, rfl⟩ F.entry_dict_eq (F.args_dict_eq_2 _ _) (dict_no_int l es n none #[] b u) ⟨ho, q⟩)
    (fun _ q => wpAny_of_eq (rfl : isSame (.int b u) (.ref l) = pure false) q) (.inr hu) h
theorem rc_bool_dict {l : Addr} {o : Obj} {es : Array DictEntry} {n : Nat} (b : Bool) (ho : s.heap.get? l = some o) (ex : o.ExactDict) (hd : o.data = .dict es n) (hu : A.units < cLine) : RcAt A s (.bool b) (.ref l) false := fun prog w E Q h => by
  obtain ⟨cls, dd, data, sl⟩ := o
  obtain ⟨h1, h2, h3⟩ := ex
  simp only at h1 h2 h3 hd
  subst h1 h2 h3 hd
  exact rc_eq_decline_or (k := false) (PySem.typeIs_bool s b) ⟨_, ho, rfl⟩ (by decide) F.sub_dict_bool F.slot_bool_eq F.slot_dict_eq_refl
    (fun _ q => call_meets F.slot_bool_eq (PySem.typeIs_bool s b) F.entry_int_eq (F.args_int_eq_2 _ _) (bool_no_dict b l es n none #[]) ⟨ho, q⟩)
    (fun _ q => call_meets F.slot_dict_eq_refl ⟨_, ho, rfl⟩ F.entry_dict_eq (F.args_dict_eq_2 _ _) (dict_no_bool l es n none #[] b) ⟨ho, q⟩)
    (fun _ q => wpAny_of_eq (rfl : isSame (.bool b) (.ref l) = pure false) q) (.inr hu) h
theorem eq_int_dict {l : Addr} {o : Obj} {es : Array DictEntry} {n : Nat} (b : Int) (u : Tok) (ho : s.heap.get? l = some o) (ex : o.ExactDict) (hd : o.data = .dict es n) (hu : A.units < cLine) : EqAt A s (.int b u) (.ref l) false := fun prog w E Q h => by
  unfold eqBool
  refine wpAny_holding ?_
  refine wpAny_ite_split (fun z => absurd (eq_of_beq z) nofun) (fun _ => ?_)
  exact wpAny_bind (rc_int_dict b u ho ex hd hu prog w E _ (wpAny_truthy_bool h))
theorem eq_bool_dict {l : Addr} {o : Obj} {es : Array DictEntry} {n : Nat} (b : Bool) (ho : s.heap.get? l = some o) (ex : o.ExactDict) (hd : o.data = .dict es n) (hu : A.units < cLine) : EqAt A s (.bool b) (.ref l) false := fun prog w E Q h => by
  unfold eqBool
  refine wpAny_holding ?_
  refine wpAny_ite_split (fun z => absurd (eq_of_beq z) nofun) (fun _ => ?_)
  exact wpAny_bind (rc_bool_dict b ho ex hd hu prog w E _ (wpAny_truthy_bool h))
end
/-- is it equal to 0 or False -/
def is0 : V → Bool
  | .int i => i == 0
  | .bl b => !b
  | _ => false
/-- a flat value, or a tracked list, tuple, dict -/
def Kd (H : Hp) (x : V) : Prop := flatV x = true ∨ ∃ a, x = .ref a ∧ ((∃ xs, H a = some (.lst xs)) ∨ (∃ xs, H a = some (.tup xs)) ∨ ∃ kvs, H a = some (.dK kvs))
def rNi01 (K : PySem.W.Frag) : R2 := fun x y H Q => ∃ p, y = .ref p ∧ SqT K H p [.int 0, .bl false] ∧ Kd H x ∧ Q (.bl (!is0 x)) H
theorem op_ni01 {X : Cx} (hu : X.A.units + 64 < cLine) : OpR X (compareOp .NotIn) (rNi01 X.K) := by
  intro pins s σ H x y v u Q I rx ry h
  obtain ⟨p, rfl, hp, kd, q⟩ := h
  cases ry
  obtain ⟨its, r, pl, hz⟩ := I.tuple hp
  obtain ⟨u1, u2, rfl, r1, r2⟩ := vals2 r
  obtain ⟨t, rfl⟩ := r1
  cases r2
  have hv : X.A.in1.units < cLine := by show X.A.units + 1 < cLine; omega
  rcases kd with f | ⟨a, rfl, kd⟩
  · refine SeqAt.notIn_tupleAt (eqU x) pl (fun w hw => mem_eqAt rx f r rfl w (by simpa using hw)) ⟨.bl _, H, I, rfl, ?_⟩
    have e : ([Value.int 0 t, Value.bool false].any (eqU x)) = is0 x := by
      cases x with
      | non => rfl
      | bl b => cases b <;> rfl
      | int i =>
        have : ((0 : Int) == i) = (i == 0) := by rw [Bool.eq_iff_iff]; simp; omega
        simp [eqU, eqV, is0, this]
      | str z => rfl
      | _ => exact absurd (show false = true from f) Bool.false_ne_true
    have e' : ([Value.int 0 t, Value.bool false].toArray.any (eqU x)) = is0 x := by rw [← e]; simp
    rw [e']
    exact q
  · cases (show v = Value.ref a from rx)
    refine SeqAt.notIn_tupleAt (fun _ => false) pl (fun w hw => ?_) ⟨.bl true, H, I, (by simp [L2.RelV]), q⟩
    have hw' : w = Value.int 0 t ∨ w = Value.bool false := by simpa using hw
    rcases kd with ⟨xs, ha⟩ | ⟨xs, ha⟩ | ⟨kvs, ha⟩
    · obtain ⟨_, _, pl2, _⟩ := I.list (.of ha)
      rcases hw' with rfl | rfl
      · exact EqAt.int_list 0 t pl2.isList hv
      · exact EqAt.bool_list false pl2.isList hv
    · obtain ⟨_, _, pl2, _⟩ := I.tuple (.of ha)
      rcases hw' with rfl | rfl
      · exact EqAt.int_tuple 0 t pl2 hv
      · exact EqAt.bool_tuple false pl2 hv
    · obtain ⟨_, _, _, _, o, es, ep, e, ex, hd, _⟩ := dk_of I.hok ha
      rcases hw' with rfl | rfl
      · exact eq_int_dict 0 t e ex hd hv
      · exact eq_bool_dict false e ex hd hv
end CP

namespace CP
open PySem L2
def top (i : Nat) : Stmt := PySem.Challenge.pw_cellplaces_k70_rings_refused.main.body.getD i (.Pass ⟨0, 0, 0, 0⟩)
abbrev s_InvalidNumber___init : Stmt := inClass (top 2) 0
abbrev s_is_whole : Stmt := top 4
abbrev s_is_count : Stmt := top 5
abbrev s_check_rows : Stmt := top 7
abbrev s_check_place : Stmt := top 8
abbrev s_turned : Stmt := top 9
abbrev s_power : Stmt := top 10
abbrev s_divisor : Stmt := top 11
abbrev s_primes : Stmt := top 12
abbrev s_units : Stmt := top 13
abbrev s_parts_of : Stmt := top 14
abbrev s_order : Stmt := top 15
abbrev s_ring_length : Stmt := top 16
abbrev s_divisors : Stmt := top 17
abbrev s_rings : Stmt := top 18
abbrev s_law_purse : Stmt := top 20
abbrev s_law_mixed : Stmt := top 21
abbrev s_law_draw : Stmt := top 22
abbrev s_law_called : Stmt := top 23
abbrev s_law_is : Stmt := top 24
abbrev s_law_firsts_right : Stmt := top 25
abbrev s_law : Stmt := top 26
theorem sc_InvalidNumber___init : FnScope ["self", "value"] ["self", "value"] (defScope s_InvalidNumber___init) := ⟨rfl, rfl, rfl, by decide +kernel, rfl, by decide +kernel, by decide +kernel⟩
theorem sc_is_whole : FnScope ["value"] ["value"] (defScope s_is_whole) := ⟨rfl, rfl, rfl, by decide +kernel, rfl, by decide +kernel, by decide +kernel⟩
theorem sc_is_count : FnScope ["value"] ["value"] (defScope s_is_count) := ⟨rfl, rfl, rfl, by decide +kernel, rfl, by decide +kernel, by decide +kernel⟩
theorem sc_check_rows : FnScope ["rows", "columns", "value"] ["rows", "columns"] (defScope s_check_rows) := ⟨rfl, rfl, rfl, by decide +kernel, rfl, by decide +kernel, by decide +kernel⟩
theorem sc_check_place : FnScope ["rows", "columns", "place"] ["rows", "columns", "place"] (defScope s_check_place) := ⟨rfl, rfl, rfl, by decide +kernel, rfl, by decide +kernel, by decide +kernel⟩
theorem sc_turned : FnScope ["rows", "columns", "place", "times", "last"] ["rows", "columns", "place", "times"] (defScope s_turned) := ⟨rfl, rfl, rfl, by decide +kernel, rfl, by decide +kernel, by decide +kernel⟩
theorem sc_power : FnScope ["base", "many", "value", "found", "square"] ["base", "many", "value"] (defScope s_power) := ⟨rfl, rfl, rfl, by decide +kernel, rfl, by decide +kernel, by decide +kernel⟩
theorem sc_divisor : FnScope ["one", "other"] ["one", "other"] (defScope s_divisor) := ⟨rfl, rfl, rfl, by decide +kernel, rfl, by decide +kernel, by decide +kernel⟩
theorem sc_primes : FnScope ["value", "found", "prime"] ["value"] (defScope s_primes) := ⟨rfl, rfl, rfl, by decide +kernel, rfl, by decide +kernel, by decide +kernel⟩
theorem sc_units : FnScope ["value", "factors", "found", "prime"] ["value", "factors"] (defScope s_units) := ⟨rfl, rfl, rfl, by decide +kernel, rfl, by decide +kernel, by decide +kernel⟩
theorem sc_parts_of : FnScope ["factors", "found", "prime", "one"] ["factors"] (defScope s_parts_of) := ⟨rfl, rfl, rfl, by decide +kernel, rfl, by decide +kernel, by decide +kernel⟩
theorem sc_order : FnScope ["base", "value", "factors", "parts", "found", "prime"] ["base", "value", "factors", "parts"] (defScope s_order) := ⟨rfl, rfl, rfl, by decide +kernel, rfl, by decide +kernel, by decide +kernel⟩
theorem sc_ring_length : FnScope ["rows", "columns", "place", "last", "factors"] ["rows", "columns", "place"] (defScope s_ring_length) := ⟨rfl, rfl, rfl, by decide +kernel, rfl, by decide +kernel, by decide +kernel⟩
theorem sc_divisors : FnScope ["value", "found", "every", "prime", "power_of", "longer", "turn", "one"] ["value"] (defScope s_divisors) := ⟨rfl, rfl, rfl, by decide +kernel, rfl, by decide +kernel, by decide +kernel⟩
theorem sc_rings : FnScope ["rows", "columns", "last", "factors", "found", "parts", "value", "length"] ["rows", "columns"] (defScope s_rings) := ⟨rfl, rfl, rfl, by decide +kernel, rfl, by decide +kernel, by decide +kernel⟩
theorem sc_law_purse : FnScope ["_law_script", "_law_at", "_law_cell"] ["_law_script", "_law_at"] (defScope s_law_purse) := ⟨rfl, rfl, rfl, by decide +kernel, rfl, by decide +kernel, by decide +kernel⟩
theorem sc_law_mixed : FnScope ["_law_seed", "_law_step", "_law_found"] ["_law_seed", "_law_step"] (defScope s_law_mixed) := ⟨rfl, rfl, rfl, by decide +kernel, rfl, by decide +kernel, by decide +kernel⟩
theorem sc_law_draw : FnScope ["_law_purse_here", "_law_many", "_law_drawn", "_law_found", "_law_piece"] ["_law_purse_here", "_law_many"] (defScope s_law_draw) := ⟨rfl, rfl, rfl, by decide +kernel, rfl, by decide +kernel, by decide +kernel⟩
theorem sc_law_called : FnScope ["_law_way", "_law_parts", "_law_caught", "error"] ["_law_way", "_law_parts"] (defScope s_law_called) := ⟨rfl, rfl, rfl, by decide +kernel, rfl, by decide +kernel, by decide +kernel⟩
theorem sc_law_is : FnScope ["_law_found", "_law_value", "_law_right"] ["_law_found", "_law_value"] (defScope s_law_is) := ⟨rfl, rfl, rfl, by decide +kernel, rfl, by decide +kernel, by decide +kernel⟩
theorem sc_law_firsts_right : FnScope ["_law_purse_here", "_law_odd", "_law_high", "_law_wide", "_law_spot", "_law_second", "_law_way", "_law_first"] ["_law_purse_here", "_law_odd", "_law_high", "_law_wide", "_law_spot"] (defScope s_law_firsts_right) := ⟨rfl, rfl, rfl, by decide +kernel, rfl, by decide +kernel, by decide +kernel⟩
theorem sc_law : FnScope ["_law_script", "_law_cell", "_law_purse_here", "_law_most", "_law_high", "_law_wide", "_law_spot", "_law_odd", "_law_way", "_law_parts", "_law_far", "_law_good"] ["_law_script"] (defScope s_law) := ⟨rfl, rfl, rfl, by decide +kernel, rfl, by decide +kernel, by decide +kernel⟩
structure Txt (K : PySem.W.Frag) (mg : Str → Option Value) where
  a_InvalidNumber___init : Addr
  fd_InvalidNumber___init : FuncData
  F_InvalidNumber___init : FunD K "__init__" "InvalidNumber.__init__" (defArgs s_InvalidNumber___init) (defBody s_InvalidNumber___init) (defScope s_InvalidNumber___init) [.non] [] a_InvalidNumber___init fd_InvalidNumber___init
  a_is_whole : Addr
  fd_is_whole : FuncData
  F_is_whole : Fun K "is_whole" "is_whole" s_is_whole a_is_whole fd_is_whole
  m_is_whole : mg "is_whole" = some (.ref a_is_whole)
  a_is_count : Addr
  fd_is_count : FuncData
  F_is_count : Fun K "is_count" "is_count" s_is_count a_is_count fd_is_count
  m_is_count : mg "is_count" = some (.ref a_is_count)
  a_check_rows : Addr
  fd_check_rows : FuncData
  F_check_rows : Fun K "check_rows" "check_rows" s_check_rows a_check_rows fd_check_rows
  m_check_rows : mg "check_rows" = some (.ref a_check_rows)
  a_check_place : Addr
  fd_check_place : FuncData
  F_check_place : Fun K "check_place" "check_place" s_check_place a_check_place fd_check_place
  m_check_place : mg "check_place" = some (.ref a_check_place)
  a_turned : Addr
  fd_turned : FuncData
  F_turned : FunD K "turned" "turned" (defArgs s_turned) (defBody s_turned) (defScope s_turned) [.int 1] [] a_turned fd_turned
  m_turned : mg "turned" = some (.ref a_turned)
  a_power : Addr
  fd_power : FuncData
  F_power : Fun K "power" "power" s_power a_power fd_power
  m_power : mg "power" = some (.ref a_power)
  a_divisor : Addr
  fd_divisor : FuncData
  F_divisor : Fun K "divisor" "divisor" s_divisor a_divisor fd_divisor
  m_divisor : mg "divisor" = some (.ref a_divisor)
  a_primes : Addr
  fd_primes : FuncData
  F_primes : Fun K "primes" "primes" s_primes a_primes fd_primes
  m_primes : mg "primes" = some (.ref a_primes)
  a_units : Addr
  fd_units : FuncData
  F_units : Fun K "units" "units" s_units a_units fd_units
  m_units : mg "units" = some (.ref a_units)
  a_parts_of : Addr
  fd_parts_of : FuncData
  F_parts_of : Fun K "parts_of" "parts_of" s_parts_of a_parts_of fd_parts_of
  m_parts_of : mg "parts_of" = some (.ref a_parts_of)
  a_order : Addr
  fd_order : FuncData
  F_order : Fun K "order" "order" s_order a_order fd_order
  m_order : mg "order" = some (.ref a_order)
  a_ring_length : Addr
  fd_ring_length : FuncData
  F_ring_length : Fun K "ring_length" "ring_length" s_ring_length a_ring_length fd_ring_length
  m_ring_length : mg "ring_length" = some (.ref a_ring_length)
  a_divisors : Addr
  fd_divisors : FuncData
  F_divisors : Fun K "divisors" "divisors" s_divisors a_divisors fd_divisors
  m_divisors : mg "divisors" = some (.ref a_divisors)
  a_rings : Addr
  fd_rings : FuncData
  F_rings : Fun K "rings" "rings" s_rings a_rings fd_rings
  m_rings : mg "rings" = some (.ref a_rings)
  a_law_purse : Addr
  fd_law_purse : FuncData
  F_law_purse : Fun K "_law_purse" "_law_purse" s_law_purse a_law_purse fd_law_purse
  m__law_purse : mg "_law_purse" = some (.ref a_law_purse)
  a_law_mixed : Addr
  fd_law_mixed : FuncData
  F_law_mixed : Fun K "_law_mixed" "_law_mixed" s_law_mixed a_law_mixed fd_law_mixed
  m__law_mixed : mg "_law_mixed" = some (.ref a_law_mixed)
  a_law_draw : Addr
  fd_law_draw : FuncData
  F_law_draw : Fun K "_law_draw" "_law_draw" s_law_draw a_law_draw fd_law_draw
  m__law_draw : mg "_law_draw" = some (.ref a_law_draw)
  a_law_called : Addr
  fd_law_called : FuncData
  F_law_called : Fun K "_law_called" "_law_called" s_law_called a_law_called fd_law_called
  m__law_called : mg "_law_called" = some (.ref a_law_called)
  a_law_is : Addr
  fd_law_is : FuncData
  F_law_is : Fun K "_law_is" "_law_is" s_law_is a_law_is fd_law_is
  m__law_is : mg "_law_is" = some (.ref a_law_is)
  a_law_firsts_right : Addr
  fd_law_firsts_right : FuncData
  F_law_firsts_right : Fun K "_law_firsts_right" "_law_firsts_right" s_law_firsts_right a_law_firsts_right fd_law_firsts_right
  m__law_firsts_right : mg "_law_firsts_right" = some (.ref a_law_firsts_right)
  a_law : Addr
  fd_law : FuncData
  F_law : Fun K "law" "law" s_law a_law fd_law
  m_law : mg "law" = some (.ref a_law)
  a_CellError : Addr
  m_CellError : mg "CellError" = some (.ref a_CellError)
  x_CellError : PySem.W.excIn K a_CellError [.type "ValueError", .type "Exception", .type "BaseException", .type "object"] "ValueError.__new__" = true
  kx_CellError : PySem.W.keepIn K (.ref a_CellError) = true
  ec_CellError : ExcC K a_CellError
  ty_CellError : PySem.W.typeIn K (.ref a_CellError) = some (.type "type")
  cr_CellError : ClX.CRead K a_CellError (.type "type")
  vi_CellError : PySem.W.findCls K (.ref a_CellError) (.type "type") "__init__" = some (.val (.builtin "ValueError.__init__"))
  a_InvalidNumber : Addr
  m_InvalidNumber : mg "InvalidNumber" = some (.ref a_InvalidNumber)
  e_InvalidNumber : ErrCls K a_InvalidNumber a_InvalidNumber___init "value"
  n_bool : mg "bool" = none
  n_int : mg "int" = none
  n_isinstance : mg "isinstance" = none
  n_len : mg "len" = none
  n_list : mg "list" = none
  n_max : mg "max" = none
  n_range : mg "range" = none
  n_repr : mg "repr" = none
  n_set : mg "set" = none
  n_sorted : mg "sorted" = none
  n_sum : mg "sum" = none
  xt : exmTab K [a_InvalidNumber] a_CellError = true
  kn : kinTab K [a_InvalidNumber, a_CellError] = true
  kt : kitTab K [a_InvalidNumber] a_CellError = true
/-- the error classes in the order of the law -/
def Txt.errs {K : PySem.W.Frag} {mg : Str → Option Value} (T : Txt K mg) : List Addr := [T.a_InvalidNumber]
theorem Txt.ecs {K : PySem.W.Frag} {mg : Str → Option Value} (T : Txt K mg) {i : Nat} {D : Addr} (h : (T.errs ++ [T.a_CellError])[i]? = some D) : ExcC K D := by
  match i, h with
  | 0, h => injection h with h; subst h; exact T.e_InvalidNumber.ec
  | 1, h => injection h with h; subst h; exact T.ec_CellError
  | n + 2, h => injection h
def errFlds : List Str := ["value"]
theorem Txt.exf {K : PySem.W.Frag} {mg : Str → Option Value} (T : Txt K mg) {i : Nat} {D : Addr} {f : Str} (h : T.errs[i]? = some D) (g : errFlds[i]? = some f) : XfC K D ∧ PySem.W.findIn K (.ref D) f = some none := by
  match i, h, g with
  | 0, h, g => injection h with h; injection g with g; subst h; subst g; exact ⟨T.e_InvalidNumber.xf, T.e_InvalidNumber.no⟩
  | n + 1, _, g => injection g
variable {P : Program} {w : World} {K : PySem.W.Frag} {mg : Str → Option Value} {base : Heap}
theorem b_is_whole (T : Txt K mg) : Binds K T.fd_is_whole ["value"] [] := T.F_is_whole.binds (ps := ["value"]) fun _ _ _ _ _ _ us hl => match us, hl with | [_], _ => rfl
theorem b_is_count (T : Txt K mg) : Binds K T.fd_is_count ["value"] [] := T.F_is_count.binds (ps := ["value"]) fun _ _ _ _ _ _ us hl => match us, hl with | [_], _ => rfl
theorem b_check_rows (T : Txt K mg) : Binds K T.fd_check_rows ["rows", "columns"] [] := T.F_check_rows.binds (ps := ["rows", "columns"]) fun _ _ _ _ _ _ us hl => match us, hl with | [_, _], _ => rfl
theorem b_check_place (T : Txt K mg) : Binds K T.fd_check_place ["rows", "columns", "place"] [] := T.F_check_place.binds (ps := ["rows", "columns", "place"]) fun _ _ _ _ _ _ us hl => match us, hl with | [_, _, _], _ => rfl
theorem b_power (T : Txt K mg) : Binds K T.fd_power ["base", "many", "value"] [] := T.F_power.binds (ps := ["base", "many", "value"]) fun _ _ _ _ _ _ us hl => match us, hl with | [_, _, _], _ => rfl
theorem b_divisor (T : Txt K mg) : Binds K T.fd_divisor ["one", "other"] [] := T.F_divisor.binds (ps := ["one", "other"]) fun _ _ _ _ _ _ us hl => match us, hl with | [_, _], _ => rfl
theorem b_primes (T : Txt K mg) : Binds K T.fd_primes ["value"] [] := T.F_primes.binds (ps := ["value"]) fun _ _ _ _ _ _ us hl => match us, hl with | [_], _ => rfl
theorem b_units (T : Txt K mg) : Binds K T.fd_units ["value", "factors"] [] := T.F_units.binds (ps := ["value", "factors"]) fun _ _ _ _ _ _ us hl => match us, hl with | [_, _], _ => rfl
theorem b_parts_of (T : Txt K mg) : Binds K T.fd_parts_of ["factors"] [] := T.F_parts_of.binds (ps := ["factors"]) fun _ _ _ _ _ _ us hl => match us, hl with | [_], _ => rfl
theorem b_order (T : Txt K mg) : Binds K T.fd_order ["base", "value", "factors", "parts"] [] := T.F_order.binds (ps := ["base", "value", "factors", "parts"]) fun _ _ _ _ _ _ us hl => match us, hl with | [_, _, _, _], _ => rfl
theorem b_ring_length (T : Txt K mg) : Binds K T.fd_ring_length ["rows", "columns", "place"] [] := T.F_ring_length.binds (ps := ["rows", "columns", "place"]) fun _ _ _ _ _ _ us hl => match us, hl with | [_, _, _], _ => rfl
theorem b_divisors (T : Txt K mg) : Binds K T.fd_divisors ["value"] [] := T.F_divisors.binds (ps := ["value"]) fun _ _ _ _ _ _ us hl => match us, hl with | [_], _ => rfl
theorem b_rings (T : Txt K mg) : Binds K T.fd_rings ["rows", "columns"] [] := T.F_rings.binds (ps := ["rows", "columns"]) fun _ _ _ _ _ _ us hl => match us, hl with | [_, _], _ => rfl
theorem b_law_purse (T : Txt K mg) : Binds K T.fd_law_purse ["_law_script", "_law_at"] [] := T.F_law_purse.binds (ps := ["_law_script", "_law_at"]) fun _ _ _ _ _ _ us hl => match us, hl with | [_, _], _ => rfl
theorem b_law_mixed (T : Txt K mg) : Binds K T.fd_law_mixed ["_law_seed", "_law_step"] [] := T.F_law_mixed.binds (ps := ["_law_seed", "_law_step"]) fun _ _ _ _ _ _ us hl => match us, hl with | [_, _], _ => rfl
theorem b_law_draw (T : Txt K mg) : Binds K T.fd_law_draw ["_law_purse_here", "_law_many"] [] := T.F_law_draw.binds (ps := ["_law_purse_here", "_law_many"]) fun _ _ _ _ _ _ us hl => match us, hl with | [_, _], _ => rfl
theorem b_law_called (T : Txt K mg) : Binds K T.fd_law_called ["_law_way", "_law_parts"] [] := T.F_law_called.binds (ps := ["_law_way", "_law_parts"]) fun _ _ _ _ _ _ us hl => match us, hl with | [_, _], _ => rfl
theorem b_law_is (T : Txt K mg) : Binds K T.fd_law_is ["_law_found", "_law_value"] [] := T.F_law_is.binds (ps := ["_law_found", "_law_value"]) fun _ _ _ _ _ _ us hl => match us, hl with | [_, _], _ => rfl
theorem b_law_firsts_right (T : Txt K mg) : Binds K T.fd_law_firsts_right ["_law_purse_here", "_law_odd", "_law_high", "_law_wide", "_law_spot"] [] := T.F_law_firsts_right.binds (ps := ["_law_purse_here", "_law_odd", "_law_high", "_law_wide", "_law_spot"]) fun _ _ _ _ _ _ us hl => match us, hl with | [_, _, _, _, _], _ => rfl
theorem b_law (T : Txt K mg) : Binds K T.fd_law ["_law_script"] [] := T.F_law.binds (ps := ["_law_script"]) fun _ _ _ _ _ _ us hl => match us, hl with | [_], _ => rfl
theorem bd_InvalidNumber___init_2 (T : Txt K mg) : ∃ ds, Vals ([] : List V) ds ∧ Binds K T.fd_InvalidNumber___init ["self", "value"] ds :=
  T.F_InvalidNumber___init.binds1 2 1 (by simp) (by decide) fun _ _ _ _ _ _ _ us its h1 h2 => match us, its, h1, h2 with | [_, _], [_], _, _ => ⟨_, by rfl, rfl⟩
theorem bd_turned_3 (T : Txt K mg) : ∃ ds, Vals ([.int 1] : List V) ds ∧ Binds K T.fd_turned ["rows", "columns", "place", "times"] ds :=
  T.F_turned.binds1 3 0 (by simp) (by decide) fun _ _ _ _ _ _ _ us its h1 h2 => match us, its, h1, h2 with | [_, _, _], [_], _, _ => ⟨_, by rfl, rfl⟩
theorem bd_turned_4 (T : Txt K mg) : ∃ ds, Vals ([] : List V) ds ∧ Binds K T.fd_turned ["rows", "columns", "place", "times"] ds :=
  T.F_turned.binds1 4 1 (by simp) (by decide) fun _ _ _ _ _ _ _ us its h1 h2 => match us, its, h1, h2 with | [_, _, _, _], [_], _, _ => ⟨_, by rfl, rfl⟩
theorem kbc_InvalidNumber___init (T : Txt K mg) : KBn K T.fd_InvalidNumber___init ["self", "value"] 1 ["value"] (fun us ws => us ++ ws) (fun vs zs => vs ++ zs) := FunD.kbn T.F_InvalidNumber___init (by simp) (fun _ _ _ _ _ _ _ its us ws h0 h1 h2 => match its, us, ws, h0, h1, h2 with | [_], [_], [_], _, _, _ => ⟨_, by rfl, rfl⟩) fun r1 r2 => r1.append r2
end CP
open CP L2 in
local macro_rules | `(tactic| walk_at "at") => `(tactic| first
  | assumption
  | (refine CP.Same.to (by assumption) ?_; walk_at "at")
  | (refine CP.SB.to (by assumption) ?ne ?_; (case ne => walk_at "ne"); walk_at "at"))
open CP L2 in
local macro_rules | `(tactic| walk_at "ne") => `(tactic| first
  | assumption
  | (refine Ne.symm ?_; assumption)
  | (refine L2.ne_of_none (o := ?o) ?h1 (by assumption); (case h1 => walk_at "at"))
  | (refine Ne.symm (L2.ne_of_none (o := ?o) ?h1 (by assumption)); (case h1 => walk_at "at")))
open CP L2 in
local macro_rules | `(tactic| walk_at "sm") => `(tactic| first
  | assumption
  | exact L2.Same.refl _
  | (refine L2.Same.trans ?_ (by assumption); walk_at "sm")
  | (refine CP.Same.sb ?s ?n (by assumption); (case s => walk_at "sm"); (case n => walk_at "nn")))
open CP L2 in
local macro_rules | `(tactic| walk_at "nn") => `(tactic| first
  | assumption
  | (refine L2.Same.free ?s (by assumption); (case s => walk_at "sm"))
  | (refine CP.SB.free (by assumption) ?h ?n; (case h => walk_at "nn"); (case n => walk_at "ne")))
open CP L2 in
local macro_rules | `(tactic| walk_at "sq") => `(tactic| first
  | assumption
  | (refine L2.SqL.of ?_; walk_at "at")
  | (refine L2.SqT.of ?_; walk_at "at")
  | (refine L2.Same.seq (by assumption) ?_; walk_at "sq"))
open CP L2 in
local macro_rules | `(tactic| walk_at "side") => `(tactic| first
  | assumption
  | decide
  | (with_reducible refine CP.mul_ok ?_; omega)
  | (with_reducible refine CP.mul_okN ?_; omega)
  | (with_reducible refine CP.div_ok ?_; omega)
  | (show (0 : Int) < _; omega)
  | omega)
open CP L2 in
local macro_rules | `(tactic| walk_at "st") => `(tactic| simp only [L2.start, List.map_cons, List.map_nil, List.length_cons, List.length_nil, Nat.reduceAdd, Nat.reduceSub, List.replicate_succ, List.replicate_zero, List.cons_append, List.nil_append, List.append_nil])
open CP L2 in
local macro_rules | `(tactic| walk_at "s") => `(tactic| first
  | with_reducible refine CP.r_seq ?_
  | with_reducible refine CP.r_asg ?_
  | (with_reducible refine CP.r_name ?_; dsimp only [List.set_cons_zero, List.set_cons_succ])
  | with_reducible refine CP.r_var rfl ?_
  | with_reducible refine CP.r_c ?_
  | with_reducible refine CP.r_op ?_
  | with_reducible refine CP.r_I0 ?_
  | (with_reducible refine CP.r_I ?c ?_; (case c => walk_at "side"))
  | with_reducible refine CP.r_eqI ?_
  | with_reducible refine CP.r_neI ?_
  | with_reducible refine CP.r_test ?_
  | with_reducible refine CP.r_tB ?_
  | with_reducible refine CP.r_bl ?_
  | with_reducible refine CP.r_ifS ?_
  | with_reducible refine CP.if_t ?_
  | with_reducible refine CP.if_f ?_
  | with_reducible refine CP.if_nt ?_
  | with_reducible refine CP.if_nf ?_
  | with_reducible refine CP.r_cons ?_
  | with_reducible refine CP.r_nil ?_
  | with_reducible refine CP.r_call ?_
  | with_reducible refine CP.r_cb ?_
  | with_reducible refine CP.r_ret ?_
  | (with_reducible refine CP.r_par ?_)
  | (with_reducible refine CP.r_two ?_; dsimp only [List.set_cons_zero, List.set_cons_succ])
  | with_reducible refine CP.r_next ?_
  | with_reducible refine CP.r_and ?_
  | with_reducible refine CP.r_or ?_
  | with_reducible refine CP.r_not ?_
  | with_reducible refine CP.r_for ?_
  | with_reducible refine CP.r_iTup ?_
  | with_reducible refine CP.r_iList ?_
  | with_reducible refine CP.r_iRng1 ?_
  | (with_reducible refine CP.r_rng ?a ?b ?_; (case a => omega); (case b => omega))
  | with_reducible refine CP.r_tup ?_
  | with_reducible refine CP.r_lst ?_
  | with_reducible refine CP.r_dnewK ?_
  | (with_reducible refine CP.r_newO ?_; intro _ _ _ _ _)
  | (with_reducible refine CP.r_mk (by first | exact Nat.zero_le _ | (simp only [List.length_cons, List.length_nil, Nat.reduceAdd]; decide) | omega) ?_; intro _ _ _ _ _)
  | (with_reducible refine CP.r_len (ys := ?y) ?h ?_; (case h => walk_at "sq"))
  | (with_reducible refine CP.r_lenT (ys := ?y) ?h ?_; (case h => walk_at "sq"))
  | (with_reducible refine CP.r_list (ys := ?y) ?h ?_; (case h => walk_at "sq"); intro _ _ _ _ _)
  | with_reducible refine CP.r_max2 ?_
  | with_reducible refine CP.r_min2 ?_
  | with_reducible refine CP.r_abs ?_
  | with_reducible refine CP.r_int ?_
  | with_reducible refine CP.r_bits ?_
  | with_reducible refine CP.r_drop ?_
  | with_reducible refine CP.r_bm ?_
  | with_reducible refine CP.r_bm0 ?_
  | with_reducible refine CP.r_sl ?_
  | with_reducible refine CP.r_noPart ?_
  | with_reducible refine CP.r_part ?_
  | with_reducible refine CP.r_gsub ?_
  | (with_reducible refine CP.r_slL (xs := ?x) ?h ?_; (case h => walk_at "sq"); intro _ _ _ _ _)
  | (with_reducible refine CP.r_cat (xs := ?x) (ys := ?y) ?h ?h2 ?z ?_; (case h => walk_at "at"); (case h2 => walk_at "at"); (case z => first | omega | (simp only [List.length_map, List.length_cons, List.length_nil]; omega)); intro _ _ _ _ _)
  | with_reducible refine CP.r_lc ?_
  | (with_reducible refine CP.r_gtup (xs := ?x) ?h ?l ?_; (case h => walk_at "sq"); (case l => simp only [List.length_cons, List.length_nil, Nat.reduceAdd]))
  | with_reducible refine CP.r_gcons ?_
  | with_reducible refine CP.r_iRng2 ?_
  | (with_reducible refine CP.r_rng2 ?a ?_; (case a => omega))
  | with_reducible refine CP.r_neB ?_
  | with_reducible refine CP.r_eqB ?_
  | with_reducible refine CP.r_dget2 ?_
  | with_reducible refine CP.r_sdput ?_
  | (with_reducible refine CP.r_disp1 ?_; intro _ _ _ _ _)
  | with_reducible refine CP.r_gnil ?_
  | with_reducible refine CP.r_callW ?_
  | with_reducible refine CP.r_callD ?_
  | with_reducible refine CP.r_retN ?_
  | with_reducible refine CP.r_andV ?_
  | with_reducible refine CP.r_orV ?_
  | with_reducible refine CP.r_notV ?_
  | (with_reducible refine CP.r_isi (n := ?n) ?t ?c ?_; (case t => first | assumption | exact CP.tk_int | exact CP.tk_bl | exact CP.tk_non | exact CP.tk_str); (case c => decide))
  | with_reducible refine CP.r_ifE ?_)
open CP L2 in
local macro_rules | `(tactic| walk_at "d") => `(tactic| first
  | (with_reducible refine CP.r_name ?_; dsimp only [L2.wipe, List.set_cons_zero, List.set_cons_succ])
  | with_reducible refine CP.r_chain ?_
  | with_reducible refine CP.r_eqXS ?_
  | with_reducible refine CP.r_neXS ?_
  | with_reducible refine CP.r_eqXI ?_
  | with_reducible refine CP.r_neXI ?_
  | with_reducible refine CP.r_dc ?_
  | with_reducible refine CP.r_par3 ?_
  | with_reducible refine CP.r_iEnum ?_
  | with_reducible refine CP.r_makeK ?_
  | with_reducible refine CP.r_iKeys ?_
  | with_reducible refine CP.r_revL ?_
  | (with_reducible refine CP.r_three ?_; dsimp only [List.set_cons_zero, List.set_cons_succ])
  | with_reducible refine CP.r_notNr ?_
  | with_reducible refine CP.r_notNn ?_
  | with_reducible refine CP.r_isNr ?_
  | with_reducible refine CP.r_isNn ?_
  | with_reducible refine CP.r_lc2 ?_
  | with_reducible refine CP.r_iStr ?_
  | with_reducible refine CP.r_strx ?_
  | with_reducible refine CP.r_inS ?_
  | with_reducible refine CP.r_notInS ?_
  | with_reducible refine CP.r_tfld ?_
  | with_reducible refine CP.r_sfld ?_
  | with_reducible refine CP.r_tmake ?_
  | with_reducible refine CP.r_tmeth ?_
  | with_reducible refine CP.r_tdni ?_
  | with_reducible refine CP.r_tdin ?_
  | with_reducible refine CP.r_tdget ?_
  | (with_reducible refine CP.r_lookI (kvs := ?k) ?h ?_; (case h => walk_at "at"))
  | (with_reducible refine CP.r_lookS (kvs := ?k) ?h ?_; (case h => walk_at "at"))
  | (with_reducible refine CP.r_isD (kvs := ?k) ?h ?_; (case h => walk_at "at"))
  | (with_reducible refine CP.r_dget2I (kvs := ?k) ?h ?_; (case h => walk_at "at"))
  | (with_reducible refine CP.r_dget2S (kvs := ?k) ?h ?_; (case h => walk_at "at"))
  | with_reducible refine CP.r_un ?_
  | with_reducible refine CP.r_unI ?_
  | with_reducible refine CP.r_callSD ?_
  | with_reducible refine CP.r_methSD ?_
  | with_reducible refine CP.r_tryK ?_
  | with_reducible refine CP.r_raise0 ?_
  | with_reducible refine CP.r_raise ?_
  | with_reducible refine CP.r_errF ?_)
open CP L2 in
local macro_rules | `(tactic| walk_at "w") => `(tactic| first
  | walk_at "s"
  | walk_at "d")

namespace CP
open PySem L2
section
variable {P : Program} {w : World} {K : PySem.W.Frag} {mg : Str → Option Value} {base : Heap}
/-- of a value of a known kind -/
def sp_is_whole (_ : Txt K mg) : Sp := fun vs H Q _ => match vs with
  | [x] => ∃ n, TK K H x n ∧ Q (.bl (n == "int")) H
  | _ => False
def t_is_whole (w : World) (T : Txt K mg) : TS := tRet (tAndV (tCB (rIsi K) (tCons (tVar 0) (tCons (tC (.ty "int")) (tNil)))) (tNotV (tCB (rIsi K) (tCons (tVar 0) (tCons (tC (.ty "bool")) (tNil))))))
theorem len_is_whole (T : Txt K mg) : ∀ (vs : List V) (H : Hp) (Q : VK) (E : XK), sp_is_whole T vs H Q E → vs.length = (["value"] : List Str).length := by
  intro vs H Q E h
  unfold sp_is_whole at h
  split at h
  all_goals first | rfl | exact h.elim
theorem rd_is_whole (T : Txt K mg) (vs : List V) (H : Hp) (Q : VK) (E : XK) (h : sp_is_whole T vs H Q E) : t_is_whole w T { nx := fun _ H' => Q .non H', rt := Q } (start ["value"] vs) H := by
  match vs, h with
  | [x], h =>
  obtain ⟨n, ht, q⟩ := h
  unfold t_is_whole
  walk_at "st"
  repeat walk_at "s"
  refine if_b (fun c => ?_) (fun c => ?_)
  · repeat walk_at "s"
    have e : (!(n == "bool" || n == "bool" && "bool" == "int")) = (n == "int") := by
      cases hb : n == "int" <;> cases hi : n == "bool" <;> simp_all
    rw [e]
    exact q
  · have e : (n == "int") = false := by
      cases hb : n == "int" <;> simp_all
    rw [e] at q
    exact q

theorem ok_is_whole (T : Txt K mg) : FnOk P w K mg base CX0 1 T.a_is_whole T.fd_is_whole ["value"] (sp_is_whole T) :=
  T.F_is_whole.ok sc_is_whole (len_is_whole T) fun cdv A outer s H vs Q E hr h => ⟨t_is_whole w T, (pss_one (ps_ret (pe_and (pe_callB call_isi (by rfl) T.n_isinstance (by decide +kernel) (pa_cons (pv 0) (pa_cons (pe_bltn (v := .ty "int") (by rfl) T.n_int (by decide +kernel) rfl) pa_nil))) (pe_one (pe_not (pe_callB call_isi (by rfl) T.n_isinstance (by decide +kernel) (pa_cons (pv 0) (pa_cons (pe_bltn (v := .ty "bool") (by rfl) T.n_bool (by decide +kernel) rfl) pa_nil)))))))), rd_is_whole T vs H Q E h⟩
end
end CP

namespace CP
open PySem L2
section
variable {P : Program} {w : World} {K : PySem.W.Frag} {mg : Str → Option Value} {base : Heap}
def sp_is_count (_ : Txt K mg) : Sp := fun vs H Q _ => match vs with
  | [.int i] => Q (.bl (decide (0 ≤ i))) H
  | [x] => ∃ n, TK K H x n ∧ n ≠ "int" ∧ Q (.bl false) H
  | _ => False
def t_is_count (w : World) (T : Txt K mg) : TS := tRet (tAndV (tCall (sp_is_whole T) [] E0 (tCons (tVar 0) (tNil))) (tOp oGe (tVar 0) (tC (.int 0))))
theorem len_is_count (T : Txt K mg) : ∀ (vs : List V) (H : Hp) (Q : VK) (E : XK), sp_is_count T vs H Q E → vs.length = (["value"] : List Str).length := by
  intro vs H Q E h
  unfold sp_is_count at h
  split at h
  all_goals first | rfl | exact h.elim
theorem rd_is_count (T : Txt K mg) (vs : List V) (H : Hp) (Q : VK) (E : XK) (h : sp_is_count T vs H Q E) : t_is_count w T { nx := fun _ H' => Q .non H', rt := Q } (start ["value"] vs) H := by
  unfold t_is_count
  unfold sp_is_count at h
  split at h
  · rename_i i
    walk_at "st"
    repeat walk_at "s"
    refine ⟨"int", tk_int, ?_⟩
    repeat walk_at "s"
    refine if_t ?_
    repeat walk_at "s"
    exact h
  · rename_i x hx
    obtain ⟨n, ht, hn, q⟩ := h
    walk_at "st"
    repeat walk_at "s"
    refine ⟨n, ht, ?_⟩
    repeat walk_at "s"
    have e : (n == "int") = false := by simpa using hn
    rw [e]
    refine if_f ?_
    exact q
  · exact h.elim

theorem ok_is_count (T : Txt K mg) : FnOk P w K mg base CX0 2 T.a_is_count T.fd_is_count ["value"] (sp_is_count T) :=
  T.F_is_count.ok sc_is_count (len_is_count T) fun cdv A outer s H vs Q E hr h => ⟨t_is_count w T, (pss_one (ps_ret (pe_and (pe_call (ok_is_whole T) (hr.mono (by decide)) (by rfl) T.m_is_whole T.F_is_whole.kp (b_is_whole T) .nil pass0 (pa_cons (pv 0) pa_nil)) (pe_one (pe_cmpR op_ge (pv 0) pe_int (nomark _)))))), rd_is_count T vs H Q E h⟩
end
end CP

namespace CP
open PySem L2
section
variable {P : Program} {w : World} {K : PySem.W.Frag} {mg : Str → Option Value} {base : Heap}
def sp_InvalidNumber___init (T : Txt K mg) : Sp := fun vs H Q _ => match vs with
  | [.ref a, v] => H a = some (exo a T.a_InvalidNumber none) ∧ ∀ dx, H dx = none → dx ≠ a → Q .non (upd (upd H dx (exd dx [("value", v)])) a (exo a T.a_InvalidNumber (some dx)))
  | _ => False
def t_InvalidNumber___init (w : World) (T : Txt K mg) : TS := tSeq (tDrop (tVeI K (tCons (tVar 0) (tCons (tC (.str "invalid number")) (tNil))))) (tOst K "value" (tVar 0) (tVar 1))
theorem len_InvalidNumber___init (T : Txt K mg) : ∀ (vs : List V) (H : Hp) (Q : VK) (E : XK), sp_InvalidNumber___init T vs H Q E → vs.length = (["self", "value"] : List Str).length := by
  intro vs H Q E h
  unfold sp_InvalidNumber___init at h
  split at h
  all_goals first | rfl | exact h.elim
theorem rd_InvalidNumber___init (T : Txt K mg) (vs : List V) (H : Hp) (Q : VK) (E : XK) (h : sp_InvalidNumber___init T vs H Q E) : t_InvalidNumber___init w T { nx := fun _ H' => Q .non H', rt := Q } (start ["self", "value"] vs) H := by
  match vs, h with
  | [.ref a, v], h =>
  obtain ⟨ha, q⟩ := h
  unfold t_InvalidNumber___init
  walk_at "st"
  repeat walk_at "w"
  refine r_veI ?_
  repeat walk_at "w"
  refine ⟨a, T.a_InvalidNumber, _, rfl, by decide, T.e_InvalidNumber.ox, ha, ?_⟩
  dsimp only
  refine r_ost ?_
  repeat walk_at "w"
  exact ⟨a, T.a_InvalidNumber, rfl, T.e_InvalidNumber.ox, T.e_InvalidNumber.no, .inl ⟨ha, fun dx n ne => q dx n ne⟩⟩
theorem ok_InvalidNumber___init (T : Txt K mg) : FnOk P w K mg base CX0 1 T.a_InvalidNumber___init T.fd_InvalidNumber___init ["self", "value"] (sp_InvalidNumber___init T) :=
  T.F_InvalidNumber___init.ok (CX := CX0) sc_InvalidNumber___init (len_InvalidNumber___init T) fun cdv A outer s H vs Q E hr h => ⟨t_InvalidNumber___init w T, PSs.nox (pss_cons (ps_expr (pe_ceinit (by rfl) T.m_CellError T.cr_CellError T.vi_CellError (pa_cons (pv 0) (pa_cons pe_str pa_nil))))
      (pss_one (ps_ost (pv 0) (pv 1)))), rd_InvalidNumber___init T vs H Q E h⟩
end
end CP

namespace CP
open PySem L2
section
variable {P : Program} {w : World} {K : PySem.W.Frag} {mg : Str → Option Value} {base : Heap}
/-- what an argument is: a whole number, or of another kind -/
def ArgV (K : PySem.W.Frag) (H : Hp) (x : V) : Option Int → Prop
  | some i => x = .int i
  | none => (∀ i, x ≠ .int i) ∧ ∃ n, n ≠ "int" ∧ ∀ H', Same H H' → TK K H' x n
theorem ArgV.mono {K : PySem.W.Frag} {H H' : Hp} {x : V} {a : Option Int} (h : ArgV K H x a) (s : Same H H') : ArgV K H' x a := by
  cases a with
  | some i => exact h
  | none =>
    obtain ⟨h0, n, h1, h2⟩ := h
    exact ⟨h0, n, h1, fun H2 s2 => h2 H2 (s.trans s2)⟩
/-- no row -/
def badR : Option Int → Bool
  | some i => decide (i < 1)
  | none => true
/-- InvalidNumber is raised with v -/
def Rsd (T : Txt K mg) (E : XK) (H : Hp) (v : V) : Prop := ∀ d H', Same H H' → H' d = some (.xd [("value", v)]) → E (.ref T.a_InvalidNumber) (some d) H'
theorem Rsd.mono {T : Txt K mg} {E : XK} {H H' : Hp} {v : V} (h : Rsd T E H v) (s : Same H H') : Rsd T E H' v := fun d H2 s2 e => h d H2 (s.trans s2) e
def sp_check_rows (T : Txt K mg) : Sp := fun vs H Q E => match vs with
  | [x, y] => ∃ a b, ArgV K H x a ∧ ArgV K H y b ∧ (badR a = false → badR b = false → ∀ H', Same H H' → Q .non H') ∧ (badR a = true → Rsd T E H x) ∧ (badR a = false → badR b = true → Rsd T E H y)
  | _ => False
def t_check_rows (W : WX) (w : World) (T : Txt K mg) : TS := tFor (iTup K (tTup (tCons (tVar 0) (tCons (tVar 1) (tNil))))) (gName 2) (tIfS (tOr (tNot (tB (tCall (sp_is_whole T) [] E0 (tCons (tVar 2) (tNil))))) (tTest (tOp oLt (tVar 2) (tC (.int 1))))) (tRaise T.a_InvalidNumber (sp_InvalidNumber___init T) [] (tCons (tVar 2) (tNil)) W) (tNext))
theorem len_check_rows (T : Txt K mg) : ∀ (vs : List V) (H : Hp) (Q : VK) (E : XK), sp_check_rows T vs H Q E → vs.length = (["rows", "columns"] : List Str).length := by
  intro vs H Q E h
  unfold sp_check_rows at h
  split at h
  all_goals first | rfl | exact h.elim
theorem rd_check_rows (T : Txt K mg) (vs : List V) (H : Hp) (Q : VK) (E : XK) (h : sp_check_rows T vs H Q E) : t_check_rows (fun cls d _ H => E cls d H) w T { nx := fun _ H' => Q .non H', rt := Q } (start ["rows", "columns", "value"] vs) H := by
  match vs, h with
  | [x, y], h =>
  obtain ⟨a, b, ha, hb, q, q1, q2⟩ := h
  unfold t_check_rows
  walk_at "st"
  repeat walk_at "s"
  rename_i p H1 n1 s1 h1
  refine ⟨p, rfl, ⟨_, .of h1⟩, for_tup (K := K) (a := p) (xs := [x, y]) (fun i σ H' => H' = H1 ∧ (1 ≤ i → badR a = false) ∧ (2 ≤ i → badR b = false) ∧ ∃ v, σ = [some x, some y, v]) ⟨rfl, fun z => by omega, fun z => by omega, _, rfl⟩ (fun _ _ _ _ w => by rw [w.1]; exact .of h1) ?_ ?_⟩
  · rintro i z σ H' hz ⟨rfl, u1, u2, v, rfl⟩
    obtain ⟨c, hc, nx, rs⟩ : ∃ c, ArgV K H z c ∧ (badR c = false → (1 ≤ i + 1 → badR a = false) ∧ (2 ≤ i + 1 → badR b = false)) ∧ (badR c = true → Rsd T E H z) := by
      match i, hz with
      | 0, e => cases e; exact ⟨a, ha, fun k => ⟨fun _ => k, fun z => by omega⟩, q1⟩
      | 1, e => cases e; exact ⟨b, hb, fun k => ⟨fun _ => u1 (by omega), fun _ => k⟩, fun k => q2 (u1 (by omega)) k⟩
    replace hc := hc.mono s1
    repeat walk_at "s"
    cases c with
    | some j =>
      cases hc
      refine ⟨"int", tk_int, ?_⟩
      repeat walk_at "s"
      refine if_f ?_
      repeat walk_at "s"
      refine if_d (fun k => ?_) fun k => ?_
      · refine r_raise ?_
        repeat walk_at "s"
        refine ⟨by simp, fun a n => made_raise (f := "value") (fun _ _ z => z) n fun d H2 dn s2 hd => ?_⟩
        exact rs (decide_eq_true k) d H2 (s1.trans s2) hd
      · repeat walk_at "s"
        obtain ⟨n1, n2⟩ := nx (decide_eq_false k)
        exact ⟨rfl, n1, n2, _, rfl⟩
    | none =>
      obtain ⟨_, n, nn, tk⟩ := hc
      refine ⟨n, tk _ (Same.refl _), ?_⟩
      rw [show (n == "int") = false by simpa using nn]
      repeat walk_at "s"
      refine r_raise ?_
      repeat walk_at "s"
      refine ⟨by simp, fun a n => made_raise (f := "value") (fun _ _ z => z) n fun d H2 dn s2 hd => ?_⟩
      exact rs rfl d H2 (s1.trans s2) hd
  · rintro σ H' ⟨rfl, u1, u2, v, rfl⟩
    exact q (u1 (by simp)) (u2 (by simp)) _ s1

theorem ok_check_rows (T : Txt K mg) : FnOk P w K mg base (L2.CX P w) 3 T.a_check_rows T.fd_check_rows ["rows", "columns"] (sp_check_rows T) :=
  T.F_check_rows.okX sc_check_rows (len_check_rows T) fun cdv A outer s H vs Q E hr h => ⟨t_check_rows (fun cls d _ H => E cls d H) w T, (pss_one (ps_for (passes_of rfl) rfl (pi_tup (pe_tup (pa_cons (pv 0) (pa_cons (pv 1) pa_nil)))) (pg_name (i := 2) sc_check_rows.nd rfl (Or.inl rfl)) (pss_one (ps_if (PW.pt (pw_or (pt_not (pt_val (pe_call (ok_is_whole T) (hr.mono (by decide)) (by rfl) T.m_is_whole T.F_is_whole.kp (b_is_whole T) .nil pass0 (pa_cons (pv 2) pa_nil)))) (pw_or1 (pt_cmpR op_lt (pv 2) pe_int (nomark _))))) (pss_one (ps_raiseK rfl (takes_of rfl rfl rfl rfl) (pmk_oex T.e_InvalidNumber.ox T.e_InvalidNumber.ini T.e_InvalidNumber.fn (ok_InvalidNumber___init T) (hr.mono (by decide)) (bd_InvalidNumber___init_2 T).choose_spec.2 (bd_InvalidNumber___init_2 T).choose_spec.1 pass0 (by rfl) T.m_InvalidNumber (pa_cons (pv 2) pa_nil)))) pss_nil)))), rd_check_rows T vs H Q E h⟩
end
end CP

namespace CP
open PySem L2
section
variable {P : Program} {w : World} {K : PySem.W.Frag} {mg : Str → Option Value} {base : Heap}
theorem count_no (T : Txt K mg) {H : Hp} {Q : VK} {E : XK} {x : V} {n : String} (hx : ∀ i, x ≠ .int i) (tk : TK K H x n) (nn : n ≠ "int") (q : Q (.bl false) H) : sp_is_count T [x] H Q E := by
  cases x with
  | int i => exact absurd rfl (hx i)
  | _ => exact ⟨n, tk, nn, q⟩
/-- no place -/
def badP (m : Int) : Option Int → Bool
  | some i => decide (i < 0) || decide (m ≤ i)
  | none => true
def sp_check_place (T : Txt K mg) : Sp := fun vs H Q E => match vs with
  | [.int r, .int c, z] => ∃ a, ArgV K H z a ∧ 0 ≤ r ∧ r < 2 ^ 100 ∧ 0 ≤ c ∧ c < 2 ^ 100 ∧ (badP (r * c) a = false → ∀ H', Same H H' → Q .non H') ∧ (badP (r * c) a = true → Rsd T E H z)
  | _ => False
def t_check_place (W : WX) (w : World) (T : Txt K mg) : TS := tIfS (tOr (tNot (tB (tCall (sp_is_count T) [] E0 (tCons (tVar 2) (tNil))))) (tTest (tOp oGe (tVar 2) (tOp oMul (tVar 0) (tVar 1))))) (tRaise T.a_InvalidNumber (sp_InvalidNumber___init T) [] (tCons (tVar 2) (tNil)) W) (tNext)
theorem len_check_place (T : Txt K mg) : ∀ (vs : List V) (H : Hp) (Q : VK) (E : XK), sp_check_place T vs H Q E → vs.length = (["rows", "columns", "place"] : List Str).length := by
  intro vs H Q E h
  unfold sp_check_place at h
  split at h
  all_goals first | rfl | exact h.elim
theorem rd_check_place (T : Txt K mg) (vs : List V) (H : Hp) (Q : VK) (E : XK) (h : sp_check_place T vs H Q E) : t_check_place (fun cls d _ H => E cls d H) w T { nx := fun _ H' => Q .non H', rt := Q } (start ["rows", "columns", "place"] vs) H := by
  match vs, h with
  | [.int r, .int c, z], h =>
  obtain ⟨a, ha, r0, r1, c0, c1, q, q1⟩ := h
  unfold t_check_place
  walk_at "st"
  repeat walk_at "s"
  cases a with
  | none =>
    obtain ⟨n0, n, nn, tk⟩ := ha
    refine count_no T n0 (tk _ (Same.refl _)) nn ?_
    repeat walk_at "s"
    refine r_raise ?_
    repeat walk_at "s"
    refine ⟨by simp, fun a n => made_raise (f := "value") (fun _ _ z => z) n fun d H2 dn s2 hd => ?_⟩
    exact q1 rfl d H2 s2 hd
  | some i =>
    cases ha
    refine r_bl (if_nd (fun k => ?_) fun k => ?_)
    · refine if_t ?_
      refine r_raise ?_
      repeat walk_at "s"
      refine ⟨by simp, fun a n => made_raise (f := "value") (fun _ _ z => z) n fun d H2 dn s2 hd => ?_⟩
      exact q1 (by simp [badP]; omega) d H2 s2 hd
    · repeat walk_at "s"
      refine if_d (fun k2 => ?_) fun k2 => ?_
      · repeat walk_at "s"
        refine r_raise ?_
        repeat walk_at "s"
        refine ⟨by simp, fun a n => made_raise (f := "value") (fun _ _ z => z) n fun d H2 dn s2 hd => ?_⟩
        exact q1 (by simp [badP]; omega) d H2 s2 hd
      · exact q (by simp [badP]; omega) _ (Same.refl _)

theorem ok_check_place (T : Txt K mg) : FnOk P w K mg base (L2.CX P w) 3 T.a_check_place T.fd_check_place ["rows", "columns", "place"] (sp_check_place T) :=
  T.F_check_place.okX sc_check_place (len_check_place T) fun cdv A outer s H vs Q E hr h => ⟨t_check_place (fun cls d _ H => E cls d H) w T, (pss_one (ps_if (PW.pt (pw_or (pt_not (pt_val (pe_call (ok_is_count T) (hr.mono (by decide)) (by rfl) T.m_is_count T.F_is_count.kp (b_is_count T) .nil pass0 (pa_cons (pv 2) pa_nil)))) (pw_or1 (pt_cmpR op_ge (pv 2) (pe_op op_mulW (pv 0) (pv 1)) (nomark _))))) (pss_one (ps_raiseK rfl (takes_of rfl rfl rfl rfl) (pmk_oex T.e_InvalidNumber.ox T.e_InvalidNumber.ini T.e_InvalidNumber.fn (ok_InvalidNumber___init T) (hr.mono (by decide)) (bd_InvalidNumber___init_2 T).choose_spec.2 (bd_InvalidNumber___init_2 T).choose_spec.1 pass0 (by rfl) T.m_InvalidNumber (pa_cons (pv 2) pa_nil)))) pss_nil)), rd_check_place T vs H Q E h⟩
end
end CP

namespace CP
open PySem L2
section
variable {P : Program} {w : World} {K : PySem.W.Frag} {mg : Str → Option Value} {base : Heap}
def sp_power (_ : Txt K mg) : Sp := fun vs H Q _ => match vs with
  | [.int b, .int m, .int v] => 0 ≤ b ∧ 0 ≤ m ∧ 0 < v ∧ v < 2 ^ 100 ∧ Q (.int ((b.toNat ^ m.toNat % v.toNat : Nat) : Int)) H
  | _ => False
theorem pow_mod_step {f s m v : Nat} (hm : 0 < m) : ((if m % 2 = 1 then f * s % v else f) * (s * s % v) ^ (m / 2)) % v = f * s ^ m % v := by
  have h1 : (s * s % v) ^ (m / 2) % v = s ^ (2 * (m / 2)) % v := by
    rw [← Nat.pow_mod, Nat.pow_mul, Nat.pow_two]
  split
  · rename_i h
    have e : m = 2 * (m / 2) + 1 := by omega
    calc (f * s % v * (s * s % v) ^ (m / 2)) % v = (f * s * s ^ (2 * (m / 2))) % v := by
          rw [Nat.mul_mod, Nat.mod_mod, h1, ← Nat.mul_mod]
      _ = f * s ^ m % v := by
          rw [Nat.mul_assoc, Nat.mul_comm s, ← Nat.pow_succ, Nat.succ_eq_add_one, ← e]
  · rename_i h
    have e : m = 2 * (m / 2) := by omega
    rw [Nat.mul_mod, h1, ← Nat.mul_mod, ← e]
theorem small_log {n : Nat} (h : n < 2 ^ 100) : n.log2 < 100 := PySem.Flt.log2_lt_of (by decide) h
def t_power (w : World) (T : Txt K mg) : TS := tSeq (tPar 3 4 (tCons (tOp oMod (tC (.int 1)) (tVar 2)) (tCons (tOp oMod (tVar 0) (tVar 2)) (tNil)))) (tSeq (tWhile (tTest (tOp oGt (tVar 1) (tC (.int 0)))) (tSeq (tIfS (tTest (tOp rEq (tOp oMod (tVar 1) (tC (.int 2))) (tC (.int 1)))) (tAsg (tOp oMod (tOp oMul (tVar 3) (tVar 4)) (tVar 2)) (gName 3)) (tNext)) (tSeq (tAsg (tOp oMod (tOp oMul (tVar 4) (tVar 4)) (tVar 2)) (gName 4)) (tAsg (tOp oDiv (tVar 1) (tC (.int 2))) (gName 1))))) (tRet (tVar 3)))
theorem len_power (T : Txt K mg) : ∀ (vs : List V) (H : Hp) (Q : VK) (E : XK), sp_power T vs H Q E → vs.length = (["base", "many", "value"] : List Str).length := by
  intro vs H Q E h
  unfold sp_power at h
  split at h
  all_goals first | rfl | exact h.elim
theorem rd_power (T : Txt K mg) (vs : List V) (H : Hp) (Q : VK) (E : XK) (h : sp_power T vs H Q E) : t_power w T { nx := fun _ H' => Q .non H', rt := Q } (start ["base", "many", "value", "found", "square"] vs) H := by
  match vs, h with
  | [.int b, .int m, .int v], h =>
  obtain ⟨hb, hm, hv, hv2, q⟩ := h
  obtain ⟨b, rfl⟩ := Int.eq_ofNat_of_zero_le hb
  obtain ⟨m, rfl⟩ := Int.eq_ofNat_of_zero_le hm
  obtain ⟨v, rfl⟩ := Int.eq_ofNat_of_zero_le (Int.le_of_lt hv)
  have hv' : 0 < v := by omega
  unfold t_power
  walk_at "st"
  repeat walk_at "s"
  refine r_whileD (fun (a : Nat × Nat × Nat) σ H' => H' = H ∧ a.1 < v ∧ a.2.1 < v ∧ a.1 * a.2.1 ^ a.2.2 % v = b ^ m % v ∧
      σ = [some (.int b), some (.int a.2.2), some (.int v), some (.int a.1), some (.int a.2.1)]) (fun a => a.2.2) (fun a => decide (0 < (a.2.2 : Int))) (1 % v, b % v, m) ⟨rfl, Nat.mod_lt _ hv', Nat.mod_lt _ hv', ?_, rfl⟩ ?_ ?_ ?_
  · show 1 % v * (b % v) ^ m % v = b ^ m % v
    rw [Nat.mul_mod, Nat.mod_mod, ← Nat.pow_mod, ← Nat.mul_mod, Nat.one_mul]
  · rintro ⟨f, s, k⟩ σ H' ⟨rfl, h1, h2, h3, rfl⟩ Q' q'
    repeat walk_at "s"
    exact q'
  · rintro ⟨f, s, k⟩ σ H' ⟨rfl, h1, h2, h3, rfl⟩ hk
    have hk : 0 < k := by simpa using hk
    have e3 := pow_mod_step (f := f) (s := s) (v := v) hk
    dsimp only at h1 h2 h3 ⊢
    repeat walk_at "s"
    have e1 : ((k : Int) % 2 = 1) = (k % 2 = 1) := by
      apply propext; omega
    refine if_d (fun c => ?_) (fun c => ?_)
    · rw [e1] at c
      rw [if_pos c] at e3
      repeat walk_at "s"
      exact ⟨(f * s % v, s * s % v, k / 2), ⟨rfl, Nat.mod_lt _ hv', Nat.mod_lt _ hv', e3.trans h3, rfl⟩, Nat.div_lt_self hk (by decide)⟩
    · rw [e1] at c
      rw [if_neg c] at e3
      repeat walk_at "s"
      exact ⟨(f, s * s % v, k / 2), ⟨rfl, h1, Nat.mod_lt _ hv', e3.trans h3, rfl⟩, Nat.div_lt_self hk (by decide)⟩
  · rintro ⟨f, s, k⟩ σ H' ⟨rfl, h1, h2, h3, rfl⟩ hk
    have hk : k = 0 := by simpa using hk
    subst hk
    repeat walk_at "s"
    simp only [Nat.pow_zero, Nat.mul_one, Nat.mod_eq_of_lt h1] at h3
    rw [h3]
    exact q

theorem ok_power (T : Txt K mg) : FnOk P w K mg base CX0 1 T.a_power T.fd_power ["base", "many", "value"] (sp_power T) :=
  T.F_power.ok sc_power (len_power T) fun cdv A outer s H vs Q E hr h => ⟨t_power w T, (pss_cons (ps_par (i := 3) (j := 4) rfl sc_power.nd rfl rfl (by decide) rfl rfl (pa_cons (pe_op op_mod pe_int (pv 2)) (pa_cons (pe_op op_mod (pv 0) (pv 2)) pa_nil)) (by rfl))
      (pss_cons (ps_while PassesOwn.never (pt_cmpR op_gt (pv 1) pe_int (nomark _)) (pss_cons (ps_if (pt_cmpR op_eq (pe_op op_mod (pv 1) pe_int) pe_int (nomark _)) (pss_one (ps_set (i := 3) sc_power.nd rfl (Or.inl rfl) (pe_op op_mod (pe_op op_mulW (pv 3) (pv 4)) (pv 2)))) pss_nil)
      (pss_cons (ps_set (i := 4) sc_power.nd rfl (Or.inl rfl) (pe_op op_mod (pe_op op_mulW (pv 4) (pv 4)) (pv 2)))
      (pss_one (ps_set (i := 1) sc_power.nd rfl (Or.inl rfl) (pe_op op_fdivW (pv 1) pe_int))))))
      (pss_one (ps_ret (pv 3))))), rd_power T vs H Q E h⟩
end
end CP

namespace CP
open PySem L2
section
variable {P : Program} {w : World} {K : PySem.W.Frag} {mg : Str → Option Value} {base : Heap}
/-- no count -/
def badC : Option Int → Bool
  | some i => decide (i < 0)
  | none => true
def sp_turned (T : Txt K mg) : Sp := fun vs H Q E => match vs with
  | [x, y, z, t] => ∃ a b c d, ArgV K H x a ∧ ArgV K H y b ∧ ArgV K H z c ∧ ArgV K H t d ∧ (badR a = true → Rsd T E H x) ∧ (badR a = false → badR b = true → Rsd T E H y) ∧
      (∀ i j, a = some i → b = some j → 1 ≤ i → 1 ≤ j → i < 2 ^ 40 ∧ j < 2 ^ 40 ∧ (badP (i * j) c = true → Rsd T E H z) ∧ (badP (i * j) c = false → badC d = true → Rsd T E H t) ∧ (badP (i * j) c = false → badC d = false → ∀ v H', Same H H' → Q v H'))
  | _ => False
theorem goodR {a : Option Int} (h : badR a = false) : ∃ i, a = some i ∧ 1 ≤ i := by
  cases a with
  | none => cases h
  | some i => exact ⟨i, rfl, by simp [badR] at h; omega⟩
def t_turned (W : WX) (w : World) (T : Txt K mg) : TS := tSeq (tDrop (tCallSD (sp_check_rows T) [] (WE W) (tCons (tVar 0) (tCons (tVar 1) (tNil))))) (tSeq (tDrop (tCallSD (sp_check_place T) [] (WE W) (tCons (tVar 0) (tCons (tVar 1) (tCons (tVar 2) (tNil)))))) (tSeq (tIfS (tNot (tB (tCall (sp_is_count T) [] E0 (tCons (tVar 3) (tNil))))) (tRaise T.a_InvalidNumber (sp_InvalidNumber___init T) [] (tCons (tVar 3) (tNil)) W) (tNext)) (tSeq (tAsg (tOp oSub (tOp oMul (tVar 0) (tVar 1)) (tC (.int 1))) (gName 4)) (tSeq (tIfS (tOr (tTest (tOp rEq (tVar 2) (tVar 4))) (tTest (tOp rEq (tVar 4) (tC (.int 0))))) (tRet (tVar 2)) (tNext)) (tRet (tOp oMod (tOp oMul (tVar 2) (tCall (sp_power T) [] E0 (tCons (tVar 0) (tCons (tVar 3) (tCons (tVar 4) (tNil)))))) (tVar 4)))))))
theorem len_turned (T : Txt K mg) : ∀ (vs : List V) (H : Hp) (Q : VK) (E : XK), sp_turned T vs H Q E → vs.length = (["rows", "columns", "place", "times"] : List Str).length := by
  intro vs H Q E h
  unfold sp_turned at h
  split at h
  all_goals first | rfl | exact h.elim
theorem rd_turned (T : Txt K mg) (vs : List V) (H : Hp) (Q : VK) (E : XK) (h : sp_turned T vs H Q E) : t_turned (fun cls d _ H => E cls d H) w T { nx := fun _ H' => Q .non H', rt := Q } (start ["rows", "columns", "place", "times", "last"] vs) H := by
  match vs, h with
  | [x, y, z, t], h =>
  obtain ⟨a, b, c, d, ha, hb, hc, hd, q1, q2, q3⟩ := h
  unfold t_turned
  walk_at "st"
  repeat walk_at "s"
  refine r_callSD ?_
  repeat walk_at "s"
  refine ⟨a, b, ha, hb, fun ga gb H1 s1 => ?_, q1, q2⟩
  obtain ⟨i, rfl, i1⟩ := goodR ga
  obtain ⟨j, rfl, j1⟩ := goodR gb
  cases ha
  cases hb
  obtain ⟨i2, j2, q4, q5, q6⟩ := q3 i j rfl rfl i1 j1
  repeat walk_at "s"
  refine r_callSD ?_
  repeat walk_at "s"
  refine ⟨c, hc.mono s1, by omega, by omega, by omega, by omega, fun gc H2 s2 => ?_, fun bc => (q4 bc).mono s1⟩
  obtain ⟨k, rfl, k0, k1⟩ : ∃ k, c = some k ∧ 0 ≤ k ∧ k < i * j := by
    cases c with
    | none => cases gc
    | some k => exact ⟨k, rfl, by simp [badP] at gc; omega⟩
  cases hc
  have S2 := s1.trans s2
  replace hd := hd.mono S2
  repeat walk_at "s"
  cases d with
  | none =>
    obtain ⟨n0, n, nn, tk⟩ := hd
    refine count_no T n0 (tk _ (Same.refl _)) nn ?_
    repeat walk_at "s"
    refine r_raise ?_
    repeat walk_at "s"
    refine ⟨by simp, fun a n => made_raise (f := "value") (fun _ _ z => z) n fun d H3 dn s3 hd => ?_⟩
    exact q5 gc rfl d H3 (S2.trans s3) hd
  | some n =>
    cases hd
    refine r_bl (if_nd (fun k => ?_) fun k => ?_)
    · repeat walk_at "s"
      refine r_raise ?_
      repeat walk_at "s"
      refine ⟨by simp, fun a n => made_raise (f := "value") (fun _ _ z => z) n fun d H3 dn s3 hd => ?_⟩
      exact q5 gc (by simp [badC]; omega) d H3 (S2.trans s3) hd
    · have n0 : 0 ≤ n := by
        first | omega | (simp at k; exact k)
      have q7 := q6 gc (by simp [badC]; omega)
      have b1 : i * j < 2 ^ 80 := by
        have h1 : i * j ≤ 2 ^ 40 * j := Int.mul_le_mul_of_nonneg_right (by omega) (by omega)
        omega
      have b0 : 1 ≤ i * j := by
        have : (1 : Int) * 1 ≤ i * j := Int.mul_le_mul i1 j1 (by decide) (by omega)
        omega
      obtain ⟨m, em⟩ := Int.eq_ofNat_of_zero_le (show 0 ≤ i * j - 1 by omega)
      repeat walk_at "s"
      rw [em]
      refine if_d (fun k => if_t ?_) fun k => ?_
      · repeat walk_at "s"
        exact q7 _ _ S2
      repeat walk_at "s"
      refine if_d (fun k2 => ?_) fun k2 => ?_
      · repeat walk_at "s"
        exact q7 _ _ S2
      repeat walk_at "s"
      refine ⟨by omega, by omega, by omega, by omega, ?_⟩
      simp only [Int.toNat_natCast]
      have hv : 0 < m := by omega
      have hm : i.toNat ^ n.toNat % m < m := Nat.mod_lt _ hv
      repeat walk_at "s"
      exact q7 _ _ S2

theorem ok_turned (T : Txt K mg) : FnOk P w K mg base (L2.CX P w) 4 T.a_turned T.fd_turned ["rows", "columns", "place", "times"] (sp_turned T) :=
  T.F_turned.ok (CX := L2.CX P w) sc_turned (len_turned T) fun cdv A outer s H vs Q E hr h => ⟨t_turned (fun cls d _ H => E cls d H) w T, (pss_cons (ps_expr (pe_callSD (ok_check_rows T) (hr.mono (by decide)) (by rfl) T.m_check_rows T.F_check_rows.kp (b_check_rows T) .nil (fun σ => passAt (takes_of rfl rfl rfl rfl) σ) (pa_cons (pv 0) (pa_cons (pv 1) pa_nil))))
      (pss_cons (ps_expr (pe_callSD (ok_check_place T) (hr.mono (by decide)) (by rfl) T.m_check_place T.F_check_place.kp (b_check_place T) .nil (fun σ => passAt (takes_of rfl rfl rfl rfl) σ) (pa_cons (pv 0) (pa_cons (pv 1) (pa_cons (pv 2) pa_nil)))))
      (pss_cons (ps_if (pt_not (pt_val (pe_call (ok_is_count T) (hr.mono (by decide)) (by rfl) T.m_is_count T.F_is_count.kp (b_is_count T) .nil pass0 (pa_cons (pv 3) pa_nil)))) (pss_one (ps_raiseK rfl (takes_of rfl rfl rfl rfl) (pmk_oex T.e_InvalidNumber.ox T.e_InvalidNumber.ini T.e_InvalidNumber.fn (ok_InvalidNumber___init T) (hr.mono (by decide)) (bd_InvalidNumber___init_2 T).choose_spec.2 (bd_InvalidNumber___init_2 T).choose_spec.1 pass0 (by rfl) T.m_InvalidNumber (pa_cons (pv 3) pa_nil)))) pss_nil)
      (pss_cons (ps_set (i := 4) sc_turned.nd rfl (Or.inl rfl) (pe_op op_sub (pe_op op_mulW (pv 0) (pv 1)) pe_int))
      (pss_cons (ps_if (PW.pt (pw_or (pt_cmpR op_eq (pv 2) (pv 4) (nomark _)) (pw_or1 (pt_cmpR op_eq (pv 4) pe_int (nomark _))))) (pss_one (ps_ret (pv 2))) pss_nil)
      (pss_one (ps_ret (pe_op op_mod (pe_op op_mulW (pv 2) (pe_call (ok_power T) (hr.mono (by decide)) (by rfl) T.m_power T.F_power.kp (b_power T) .nil pass0 (pa_cons (pv 0) (pa_cons (pv 3) (pa_cons (pv 4) pa_nil))))) (pv 4))))))))), rd_turned T vs H Q E h⟩
end
end CP

namespace CP
open PySem L2
section
variable {P : Program} {w : World} {K : PySem.W.Frag} {mg : Str → Option Value} {base : Heap}
def sp_divisor (_ : Txt K mg) : Sp := fun vs H Q _ => match vs with
  | [.int a, .int b] => 0 ≤ a ∧ 0 ≤ b ∧ Q (.int ((Nat.gcd a.toNat b.toNat : Nat) : Int)) H
  | _ => False
def t_divisor (w : World) (T : Txt K mg) : TS := tSeq (tWhile (tTest (tOp rNe (tVar 1) (tC (.int 0)))) (tPar 0 1 (tCons (tVar 1) (tCons (tOp oMod (tVar 0) (tVar 1)) (tNil))))) (tRet (tVar 0))
theorem len_divisor (T : Txt K mg) : ∀ (vs : List V) (H : Hp) (Q : VK) (E : XK), sp_divisor T vs H Q E → vs.length = (["one", "other"] : List Str).length := by
  intro vs H Q E h
  unfold sp_divisor at h
  split at h
  all_goals first | rfl | exact h.elim
theorem rd_divisor (T : Txt K mg) (vs : List V) (H : Hp) (Q : VK) (E : XK) (h : sp_divisor T vs H Q E) : t_divisor w T { nx := fun _ H' => Q .non H', rt := Q } (start ["one", "other"] vs) H := by
  match vs, h with
  | [.int a, .int b], h =>
  obtain ⟨ha, hb, q⟩ := h
  obtain ⟨a, rfl⟩ := Int.eq_ofNat_of_zero_le ha
  obtain ⟨b, rfl⟩ := Int.eq_ofNat_of_zero_le hb
  unfold t_divisor
  walk_at "st"
  repeat walk_at "s"
  refine r_whileD (fun (z : Nat × Nat) σ H' => H' = H ∧ Nat.gcd z.1 z.2 = Nat.gcd a b ∧ σ = [some (.int z.1), some (.int z.2)]) (fun z => z.2) (fun z => !decide ((z.2 : Int) = 0)) (a, b) ⟨rfl, rfl, rfl⟩ ?_ ?_ ?_
  · rintro ⟨x, y⟩ σ H' ⟨rfl, h1, rfl⟩ Q' q'
    repeat walk_at "s"
    exact q'
  · rintro ⟨x, y⟩ σ H' ⟨rfl, h1, rfl⟩ hk
    have hk : 0 < y := by
      have : ¬ ((y : Int) = 0) := by simpa using hk
      omega
    dsimp only at h1 ⊢
    repeat walk_at "s"
    refine ⟨(y, x % y), ⟨rfl, ?_, rfl⟩, Nat.mod_lt _ hk⟩
    show Nat.gcd y (x % y) = _
    rw [← h1, Nat.gcd_comm y, ← Nat.gcd_rec, Nat.gcd_comm]
  · rintro ⟨x, y⟩ σ H' ⟨rfl, h1, rfl⟩ hk
    have hk : y = 0 := by simpa using hk
    subst hk
    repeat walk_at "s"
    dsimp only at h1
    rw [Nat.gcd_zero_right] at h1
    dsimp only
    rw [h1]
    exact q

theorem ok_divisor (T : Txt K mg) : FnOk P w K mg base CX0 1 T.a_divisor T.fd_divisor ["one", "other"] (sp_divisor T) :=
  T.F_divisor.ok sc_divisor (len_divisor T) fun cdv A outer s H vs Q E hr h => ⟨t_divisor w T, (pss_cons (ps_while PassesOwn.never (pt_cmpR op_ne (pv 1) pe_int (nomark _)) (pss_one (ps_par (i := 0) (j := 1) rfl sc_divisor.nd rfl rfl (by decide) rfl rfl (pa_cons (pv 1) (pa_cons (pe_op op_mod (pv 0) (pv 1)) pa_nil)) (by rfl))))
      (pss_one (ps_ret (pv 0)))), rd_divisor T vs H Q E h⟩
end
end CP

namespace CP
open PySem L2
section
variable {P : Program} {w : World} {K : PySem.W.Frag} {mg : Str → Option Value} {base : Heap}
def sp_primes (_ : Txt K mg) : Sp := fun vs H Q _ => match vs with
  | [.int v] => 1 ≤ v ∧ v < 2 ^ 60 ∧ ∀ p H', H p = none → Same H H' → H' p = some (.lst (natL (Rm.pf v.toNat))) → Q (.ref p) H'
  | _ => False
/-- the product of what is found and what is left -/
theorem inner_len {l : List Nat} {u v : Nat} (h : ∀ q ∈ l, 2 ≤ q) (e : l.prod * u = v) (hu : 0 < u) (hv : v < 2 ^ 60) : l.length < 60 := by
  have h1 := Rm.two_pow_le h
  have h2 : 2 ^ l.length < 2 ^ 60 := by
    have : l.prod * 1 ≤ l.prod * u := Nat.mul_le_mul_left _ hu
    omega
  exact (Nat.pow_lt_pow_iff_right (by decide)).mp h2
def t_primes (w : World) (T : Txt K mg) : TS := tSeq (tPar 1 2 (tCons (tLst (tNil)) (tCons (tC (.int 2)) (tNil)))) (tSeq (tWhile (tTest (tOp oLe (tOp oMul (tVar 2) (tVar 2)) (tVar 0))) (tSeq (tWhile (tTest (tOp rEq (tOp oMod (tVar 0) (tVar 2)) (tC (.int 0)))) (tSeq (tDrop (tBM K "list" rAppend (tVar 1) (tCons (tVar 2) (tNil)))) (tAsg (tOp oDiv (tVar 0) (tVar 2)) (gName 0)))) (tAsg (tOp oAdd (tVar 2) (tC (.int 1))) (gName 2)))) (tRet (tIf (tTest (tOp oGt (tVar 0) (tC (.int 1)))) (tOp rCat (tVar 1) (tLst (tCons (tVar 0) (tNil)))) (tVar 1))))
theorem len_primes (T : Txt K mg) : ∀ (vs : List V) (H : Hp) (Q : VK) (E : XK), sp_primes T vs H Q E → vs.length = (["value"] : List Str).length := by
  intro vs H Q E h
  unfold sp_primes at h
  split at h
  all_goals first | rfl | exact h.elim
theorem rd_primes (T : Txt K mg) (vs : List V) (H : Hp) (Q : VK) (E : XK) (h : sp_primes T vs H Q E) : t_primes w T { nx := fun _ H' => Q .non H', rt := Q } (start ["value", "found", "prime"] vs) H := by
  match vs, h with
  | [.int v], h =>
  obtain ⟨hv, hv2, q⟩ := h
  obtain ⟨v, rfl⟩ := Int.eq_ofNat_of_zero_le (Int.le_trans (by decide) hv)
  simp only [Int.toNat_natCast] at q
  unfold t_primes
  walk_at "st"
  repeat walk_at "s"
  rename_i p H1 n1 s1 h1
  refine r_whileD (fun (a : List Nat × Nat × Nat) σ H' => Same H H' ∧ H' p = some (.lst (natL a.1)) ∧ 2 ≤ a.2.1 ∧ a.2.1 ≤ v + 2 ∧ 0 < a.2.2 ∧ a.1.prod * a.2.2 = v ∧ (∀ q ∈ a.1, 2 ≤ q) ∧ a.1 ++ Rm.outer a.2.1 a.2.2 = Rm.pf v ∧
      σ = [some (.int a.2.2), some (.ref p), some (.int a.2.1)]) (fun a => a.2.2 + 1 - a.2.1) (fun a => decide ((a.2.1 : Int) * a.2.1 ≤ a.2.2)) ([], 2, v) ⟨s1, h1, Nat.le_refl 2, by dsimp only; omega, by dsimp only; omega, by simp, by simp, rfl, rfl⟩ ?_ ?_ ?_
  · rintro ⟨acc, pr, u⟩ σ H' ⟨w1, w2, w3, w4, w5, w6, w7, w8, rfl⟩ Q' q'
    dsimp only at w1 w2 w3 w4 w5 w6 w7 w8 q' ⊢
    repeat walk_at "s"
    exact q'
  · rintro ⟨acc, pr, u⟩ σ H' ⟨w1, w2, w3, w4, w5, w6, w7, w8, rfl⟩ hk
    dsimp only at w1 w2 w3 w4 w5 w6 w7 w8 hk ⊢
    have hk : pr * pr ≤ u := by
      have := of_decide_eq_true hk
      have e : ((pr * pr : Nat) : Int) = (pr : Int) * pr := Int.natCast_mul pr pr
      omega
    have hlt := Rm.sq_lt ⟨w3, hk⟩
    have huv : u ≤ v := by
      rw [← w6]
      have h1 := Rm.two_pow_le w7
      have h2 : 0 < 2 ^ acc.length := Nat.pow_pos (by decide)
      exact Nat.le_mul_of_pos_left u (by omega)
    repeat walk_at "s"
    refine r_whileD (fun (b : List Nat × Nat) σ H' => Same H H' ∧ H' p = some (.lst (natL b.1)) ∧ 0 < b.2 ∧ b.2 ≤ u ∧ b.1.prod * b.2 = v ∧ (∀ q ∈ b.1, 2 ≤ q) ∧ b.1 ++ (Rm.inner pr b.2).1 = acc ++ (Rm.inner pr u).1 ∧ (Rm.inner pr b.2).2 = (Rm.inner pr u).2 ∧
      σ = [some (.int b.2), some (.ref p), some (.int pr)]) (fun b => b.2) (fun b => decide ((b.2 : Int) % pr = 0)) (acc, u) ⟨w1, w2, w5, Nat.le_refl _, w6, w7, rfl, rfl, rfl⟩ ?_ ?_ ?_
    · rintro ⟨bc, x⟩ σ H' ⟨x1, x2, x3, x4, x5, x6, x7, x8, rfl⟩ Q' q'
      dsimp only at x1 x2 x3 x4 x5 x6 x7 x8 q' ⊢
      repeat walk_at "s"
      exact q'
    · rintro ⟨bc, x⟩ σ H' ⟨x1, x2, x3, x4, x5, x6, x7, x8, rfl⟩ hx
      dsimp only at x1 x2 x3 x4 x5 x6 x7 x8 hx ⊢
      have hx : x % pr = 0 := by
        have := of_decide_eq_true hx
        omega
      have hy := Rm.inner_yes ⟨w3, x3, hx⟩
      rw [hy] at x7 x8
      have hd : x = pr * (x / pr) := (Nat.mul_div_cancel' (Nat.dvd_of_mod_eq_zero hx)).symm
      have hq : 0 < x / pr := Nat.div_pos (Nat.le_of_dvd x3 (Nat.dvd_of_mod_eq_zero hx)) (by omega)
      have hl := inner_len x6 x5 x3 (by omega)
      repeat walk_at "s"
      refine ⟨.inl ⟨rfl, _, .of x2⟩, ?_⟩
      repeat walk_at "s"
      refine r_app x2 (by rw [natL_length]; exact Nat.lt_of_lt_of_le hl (by decide)) fun H2 b2 h2 => ?_
      repeat walk_at "s"
      refine ⟨(bc ++ [pr], x / pr), ⟨by walk_at "sm", by rw [natL_app, natL_one]; exact h2, hq, Nat.le_trans (Nat.div_le_self x pr) x4, ?_, ?_, ?_, x8, rfl⟩, Nat.div_lt_self x3 w3⟩
      · show (bc ++ [pr]).prod * (x / pr) = v
        rw [List.prod_append, List.prod_cons, List.prod_nil, Nat.mul_one, Nat.mul_assoc, ← hd]
        exact x5
      · intro q hq
        rcases List.mem_append.mp hq with hq | hq
        · exact x6 q hq
        · rw [List.mem_singleton.mp hq]; exact w3
      · show bc ++ [pr] ++ _ = _
        rw [List.append_assoc]
        exact x7
    · rintro ⟨bc, x⟩ σ H' ⟨x1, x2, x3, x4, x5, x6, x7, x8, rfl⟩ hx
      dsimp only at x1 x2 x3 x4 x5 x6 x7 x8 hx ⊢
      have hx : x % pr ≠ 0 := by
        have := of_decide_eq_false hx
        omega
      rw [Rm.inner_no (fun z => hx z.2.2)] at x7 x8
      rw [List.append_nil] at x7
      repeat walk_at "s"
      refine ⟨(bc, pr + 1, x), ⟨x1, x2, by dsimp only; omega, by dsimp only; omega, x3, x5, x6, ?_, rfl⟩, by dsimp only; omega⟩
      show bc ++ Rm.outer (pr + 1) x = Rm.pf v
      rw [← w8, Rm.outer_yes ⟨w3, hk⟩, ← List.append_assoc, ← x7, ← x8]
  · rintro ⟨acc, pr, u⟩ σ H' ⟨w1, w2, w3, w4, w5, w6, w7, w8, rfl⟩ hk
    dsimp only at w1 w2 w3 w4 w5 w6 w7 w8 hk ⊢
    have hk : ¬ pr * pr ≤ u := by
      have := of_decide_eq_false hk
      have e : ((pr * pr : Nat) : Int) = (pr : Int) * pr := Int.natCast_mul pr pr
      omega
    rw [Rm.outer_no (fun z => hk z.2)] at w8
    have hl := inner_len w7 w6 w5 (by omega)
    repeat walk_at "s"
    refine if_d (fun c => ?_) fun c => ?_
    · rw [if_pos (by omega)] at w8
      repeat walk_at "s"
      rename_i p2 H2 n2 s2 h2
      have z : (natL acc).length + [V.int (u : Int)].length ≤ sizeLine := by
        rw [natL_length]
        exact Nat.le_trans (Nat.succ_le_of_lt hl) (by decide)
      refine r_cat (xs := natL acc) (ys := [.int (u : Int)]) (by walk_at "at") h2 z fun l H3 n3 s3 h3 => ?_
      refine q l H3 (by walk_at "nn") (by walk_at "sm") ?_
      rw [← w8, natL_app, natL_one]
      exact h3
    · rw [if_neg (by omega), List.append_nil] at w8
      repeat walk_at "s"
      rw [w8] at w2
      exact q p H' n1 w1 w2

theorem ok_primes (T : Txt K mg) : FnOk P w K mg base CX0 1 T.a_primes T.fd_primes ["value"] (sp_primes T) :=
  T.F_primes.ok sc_primes (len_primes T) fun cdv A outer s H vs Q E hr h => ⟨t_primes w T, (pss_cons (ps_par (i := 1) (j := 2) rfl sc_primes.nd rfl rfl (by decide) rfl rfl (pa_cons (pe_lst pa_nil) (pa_cons pe_int pa_nil)) (by rfl))
      (pss_cons (ps_while PassesOwn.never (pt_cmpR op_le (pe_op op_mulW (pv 2) (pv 2)) (pv 0) (nomark _)) (pss_cons (ps_while PassesOwn.never (pt_cmpR op_eq (pe_op op_mod (pv 0) (pv 2)) pe_int (nomark _)) (pss_cons (ps_expr (pe_bm PySem.F.plainAttrs_list PySem.F.slot_list_append PySem.F.type_list_append mt_append (pv 1) (pa_cons (pv 2) pa_nil)))
      (pss_one (ps_set (i := 0) sc_primes.nd rfl (Or.inl rfl) (pe_op op_fdivW (pv 0) (pv 2))))))
      (pss_one (ps_set (i := 2) sc_primes.nd rfl (Or.inl rfl) (pe_op op_add (pv 2) pe_int)))))
      (pss_one (ps_ret (pe_ifExp (pt_cmpR op_gt (pv 0) pe_int (nomark _)) (pe_op op_cat (pv 1) (pe_lst (pa_cons (pv 0) pa_nil))) (pv 1)))))), rd_primes T vs H Q E h⟩
end
end CP

namespace CP
open PySem L2
section
variable {P : Program} {w : World} {K : PySem.W.Frag} {mg : Str → Option Value} {base : Heap}
def sp_units (_ : Txt K mg) : Sp := fun vs H Q _ => match vs with
  | [.int v, .ref a] => ∃ l : List Nat, H a = some (.lst (natL l)) ∧ 1 ≤ v ∧ v < 2 ^ 60 ∧ (∀ q ∈ l, Rm.Pr q ∧ q < 2 ^ 60) ∧ Q (.int (Rm.units v.toNat l : Nat)) H
  | _ => False
def t_units (w : World) (T : Txt K mg) : TS := tSeq (tAsg (tVar 0) (gName 2)) (tSeq (tFor (iList K (tVar 1)) (gName 3) (tIfS (tTest (tOp rEq (tOp oMod (tVar 0) (tVar 3)) (tC (.int 0)))) (tAsg (tOp oMul (tOp oDiv (tVar 2) (tVar 3)) (tOp oSub (tVar 3) (tC (.int 1)))) (gName 2)) (tNext))) (tRet (tVar 2)))
theorem len_units (T : Txt K mg) : ∀ (vs : List V) (H : Hp) (Q : VK) (E : XK), sp_units T vs H Q E → vs.length = (["value", "factors"] : List Str).length := by
  intro vs H Q E h
  unfold sp_units at h
  split at h
  all_goals first | rfl | exact h.elim
theorem rd_units (T : Txt K mg) (vs : List V) (H : Hp) (Q : VK) (E : XK) (h : sp_units T vs H Q E) : t_units w T { nx := fun _ H' => Q .non H', rt := Q } (start ["value", "factors", "found", "prime"] vs) H := by
  match vs, h with
  | [.int v, .ref a], h =>
  obtain ⟨l, ha, hv, hv2, hp, q⟩ := h
  obtain ⟨v, rfl⟩ := Int.eq_ofNat_of_zero_le (Int.le_trans (by decide) hv)
  simp only [Int.toNat_natCast] at q
  unfold t_units
  walk_at "st"
  repeat walk_at "s"
  refine ⟨a, rfl, ⟨_, .of ha⟩, for_list (K := K) (a := a) (xs := natL l) (fun i σ H' => H' = H ∧ ∃ x, σ = [some (.int v), some (.ref a), some (.int (Rm.unitsTo v v (l.take i) : Nat)), x]) ⟨rfl, _, rfl⟩ (fun _ _ _ _ w => by rw [w.1]; exact .of ha) ?_ ?_⟩
  · rintro i x σ H' hx ⟨rfl, z, rfl⟩
    obtain ⟨n, hn, rfl⟩ := natL_get hx
    have hpn := (hp n (List.mem_of_getElem? hn)).1.1
    have hpb := (hp n (List.mem_of_getElem? hn)).2
    have step : Rm.unitsTo v v (l.take (i + 1)) = if v % n = 0 then Rm.unitsTo v v (l.take i) / n * (n - 1) else Rm.unitsTo v v (l.take i) := foldl_succ hn
    have le := Rm.unitsTo_le (v := v) (l := l.take i) v
    rw [step]
    generalize Rm.unitsTo v v (l.take i) = f at le ⊢
    have hle : f / n ≤ f := Nat.div_le_self f n
    have e1 : (f : Int) / n = ((f / n : Nat) : Int) := by simp
    have e2 : (n : Int) - 1 = ((n - 1 : Nat) : Int) := by omega
    repeat walk_at "s"
    refine if_d (fun c => ?_) fun c => ?_
    · repeat walk_at "s"
      rw [e1, e2]
      repeat walk_at "s"
      refine ⟨rfl, some (.int n), ?_⟩
      rw [if_pos (by omega), Int.natCast_mul]
    · repeat walk_at "s"
      refine ⟨rfl, some (.int n), ?_⟩
      rw [if_neg (by omega)]
  · rintro σ H' ⟨rfl, z, rfl⟩
    rw [natL_length, List.take_length]
    repeat walk_at "s"
    exact q

theorem ok_units (T : Txt K mg) : FnOk P w K mg base CX0 1 T.a_units T.fd_units ["value", "factors"] (sp_units T) :=
  T.F_units.ok sc_units (len_units T) fun cdv A outer s H vs Q E hr h => ⟨t_units w T, (pss_cons (ps_set (i := 2) sc_units.nd rfl (Or.inl rfl) (pv 0))
      (pss_cons (ps_for PassesOwn.never rfl (pi_list (pv 1)) (pg_name (i := 3) sc_units.nd rfl (Or.inl rfl)) (pss_one (ps_if (pt_cmpR op_eq (pe_op op_mod (pv 0) (pv 3)) pe_int (nomark _)) (pss_one (ps_set (i := 2) sc_units.nd rfl (Or.inl rfl) (pe_op op_mulW (pe_op op_fdivW (pv 2) (pv 3)) (pe_op op_sub (pv 3) pe_int)))) pss_nil)))
      (pss_one (ps_ret (pv 2))))), rd_units T vs H Q E h⟩
end
end CP

namespace CP
open PySem L2
section
variable {P : Program} {w : World} {K : PySem.W.Frag} {mg : Str → Option Value} {base : Heap}
def sp_parts_of (_ : Txt K mg) : Sp := fun vs H Q _ => match vs with
  | [.ref a] => ∃ l : List Nat, H a = some (.lst (natL l)) ∧ (∀ q ∈ l, Rm.Pr q ∧ q < 2 ^ 60) ∧ (Rm.partsTo l l).length < 64 ∧
      ∀ p H', H p = none → Same H H' → H' p = some (.lst (natL (Rm.parts l))) → Q (.ref p) H'
  | _ => False
theorem parts_len {acc l : List Nat} : acc.length ≤ (Rm.partsTo acc l).length := by
  induction l generalizing acc with
  | nil => exact Nat.le_refl _
  | cons a l ih =>
    refine Nat.le_trans ?_ (ih (acc := acc ++ (Rm.pf (a - 1)).filter fun q => !acc.contains q))
    rw [List.length_append]
    omega
theorem parts_take (l m : List Nat) (i : Nat) : (Rm.partsTo l (m.take i)).length ≤ (Rm.partsTo l m).length := by
  have e : Rm.partsTo l m = Rm.partsTo (Rm.partsTo l (m.take i)) (m.drop i) := by
    unfold Rm.partsTo
    rw [← List.foldl_append, List.take_append_drop]
  rw [e]
  exact parts_len
theorem pf_len {v : Nat} (h : 0 < v) (h2 : v < 2 ^ 60) : (Rm.pf v).length < 60 :=
  (Nat.pow_lt_pow_iff_right (by decide)).mp (Nat.lt_of_le_of_lt (Rm.pf_length v h) h2)
theorem filter_nat (f l : List Nat) : ((natL l).filter fun x => !inV x (natL f)).map id = natL (l.filter fun q => !f.contains q) := by
  unfold natL
  rw [List.map_id, List.filter_map]
  congr 1
  refine List.filter_congr fun n _ => ?_
  show (!inV (.int (n : Int)) (natL f)) = _
  rw [inV_nat]
/-- sorted(set(..)) of a list of whole numbers from 0 up -/
theorem r_sortN {σ : St} {l : List Nat} {H : Hp} {a : Addr} {Q : VK} (hl : H a = some (.lst (natL l))) (hn : l.length < 64)
    (k : ∀ (p : Addr) (H' : Hp), Same H H' → H p = none → H' p = some (.lst (natL (Rm.uniq l))) → Q (.ref p) H') :
    rSetI K w [.ref a] H fun x H1 => tNil σ H1 fun xs H2 => rSortedSet w (x :: xs) H2 Q := by
  refine r_sortSetI (ns := l.map fun n : Nat => (n : Int)) (.of (natL_int _ ▸ hl)) (by rw [List.length_map]; exact hn) fun us p H2 hu hk s2 p0 p2 => ?_
  obtain ⟨m, rfl, hm, hmm⟩ := ints_nat hu hk
  have e : m = Rm.uniq l := Rm.sorted_ext (R := fun a b : Nat => a < b) (fun a => Nat.lt_irrefl a) (fun a b h => Nat.lt_asymm h) hm (Rm.uniq_sorted _) fun x => by rw [hmm, Rm.mem_uniq]
  refine k p H2 s2 p0 ?_
  rw [p2, ← e, natL_int]
def t_parts_of (w : World) (T : Txt K mg) : TS := tSeq (tAsg (tCB ((oList K)) (tCons (tVar 0) (tNil))) (gName 1)) (tSeq (tFor (iList K (tVar 0)) (gName 2) (tAsg (tOp rCat (tVar 1) (tLc (iList K (tCall (sp_primes T) [] E0 (tCons (tOp oSub (tVar 2) (tC (.int 1))) (tNil)))) (gName 3) (tTest (tOp (rIn K true) (tVar 3) (tVar 1))) (tVar 3) [3])) (gName 1))) (tRet (tCB (rSortedSet w) (tCons (tCB (rSetI K w) (tCons (tVar 1) (tNil))) (tNil)))))
theorem len_parts_of (T : Txt K mg) : ∀ (vs : List V) (H : Hp) (Q : VK) (E : XK), sp_parts_of T vs H Q E → vs.length = (["factors"] : List Str).length := by
  intro vs H Q E h
  unfold sp_parts_of at h
  split at h
  all_goals first | rfl | exact h.elim
theorem rd_parts_of (T : Txt K mg) (vs : List V) (H : Hp) (Q : VK) (E : XK) (h : sp_parts_of T vs H Q E) : t_parts_of w T { nx := fun _ H' => Q .non H', rt := Q } (start ["factors", "found", "prime", "one"] vs) H := by
  match vs, h with
  | [.ref a], h =>
  obtain ⟨l, ha, hp, hl, q⟩ := h
  have sz : sizeLine = 16777216 := rfl
  unfold t_parts_of
  walk_at "st"
  repeat walk_at "s"
  rename_i f H1 f0 s1 f1
  refine ⟨a, rfl, ⟨_, .of (CP.Same.to s1 ha)⟩, for_list (K := K) (a := a) (xs := natL l) (fun i σ H' => Same H H' ∧ ∃ g x y, H' g = some (.lst (natL (Rm.partsTo l (l.take i)))) ∧ σ = [some (.ref a), some (.ref g), x, y]) ⟨s1, f, _, _, f1, rfl⟩ (fun _ _ _ _ w => .of (CP.Same.to w.1 ha)) ?_ ?_⟩
  · rintro i x σ H' hx ⟨s, g, y, z, hg, rfl⟩
    obtain ⟨n, hn, rfl⟩ := natL_get hx
    have hpn := (hp n (List.mem_of_getElem? hn)).1.1
    have hpb := (hp n (List.mem_of_getElem? hn)).2
    have step : Rm.partsTo l (l.take (i + 1)) = Rm.partsTo l (l.take i) ++ (Rm.pf (n - 1)).filter fun q => !(Rm.partsTo l (l.take i)).contains q := foldl_succ hn
    have lt := parts_take l l (i + 1)
    rw [step]
    rw [step] at lt
    generalize Rm.partsTo l (l.take i) = f at lt hg ⊢
    have e1 : (n : Int) - 1 = ((n - 1 : Nat) : Int) := by omega
    have pl := pf_len (v := n - 1) (by omega) (by omega)
    repeat walk_at "s"
    rw [e1]
    refine ⟨by omega, by omega, fun p H2 p0 s2 p2 => ?_⟩
    rw [Int.toNat_natCast] at p2
    refine ⟨_, rfl, ⟨_, .of p2⟩, ?_⟩
    intro D hD
    refine lc_pure (K := K) (a := p) (xs := natL (Rm.pf (n - 1))) (fun x => !inV x (natL f)) id hD (.of p2) (by rw [natL_length]; omega) ?_ ?_
    · rintro x hx H3 s3 R k
      obtain ⟨m, hm, rfl⟩ := List.mem_map.mp hx
      refine CP.r_name ?_
      dsimp only [wipe, List.set_cons_zero, List.set_cons_succ, List.foldl_cons, List.foldl_nil]
      refine k _ ⟨rfl, fun Q' q' => ?_, fun _ Q' q' => ?_⟩
      · repeat walk_at "s"
        exact r_in (neg := true) (.of (CP.Same.to s3 (CP.Same.to s2 hg))) rfl (natL_flat _) ⟨_, rfl, q'⟩
      · repeat walk_at "s"
        exact q'
    · intro H3 s3 d3
      rw [filter_nat] at d3
      have g3 := CP.Same.to s3 (CP.Same.to s2 hg)
      rw [List.length_append] at lt
      refine r_cat g3 d3 (by rw [natL_length, natL_length]; omega) fun r H4 r0 s4 r4 => ?_
      repeat walk_at "s"
      rw [← natL_app] at r4
      exact ⟨((s.trans s2).trans s3).trans s4, r, _, _, r4, rfl⟩
  · rintro σ H' ⟨s, g, y, z, hg, rfl⟩
    rw [natL_length, List.take_length] at hg
    repeat walk_at "s"
    exact r_sortN hg hl fun p H2 s2 p0 p2 => q p H2 (s.free p0) (s.trans s2) p2

theorem ok_parts_of (T : Txt K mg) : FnOk P w K mg base CX0 2 T.a_parts_of T.fd_parts_of ["factors"] (sp_parts_of T) :=
  T.F_parts_of.ok sc_parts_of (len_parts_of T) fun cdv A outer s H vs Q E hr h => ⟨t_parts_of w T, (pss_cons (ps_set (i := 1) sc_parts_of.nd rfl (Or.inr rfl) (pe_callTy call_listA (by rfl) T.n_list (by decide +kernel) (pa_cons (pv 0) pa_nil)))
      (pss_cons (ps_for PassesOwn.never rfl (pi_list (pv 0)) (pg_name (i := 2) sc_parts_of.nd rfl (Or.inl rfl)) (pss_one (ps_set (i := 1) sc_parts_of.nd rfl (Or.inr rfl) (pe_op op_cat (pv 1) (pe_lc (own := [("one", 3)]) (g := (gName 3)) (tt := tTest (tOp (rIn K true) (tVar 3) (tVar 1))) (te := tVar 3) rfl sc_parts_of.nd (pi_list (pe_call (ok_primes T) (hr.mono (by decide)) (by rfl) T.m_primes T.F_primes.kp (b_primes T) .nil pass0 (pa_cons (pe_op op_sub (pv 2) pe_int) pa_nil))) (blkOk_by (own := [("one", 3)]) (N := ["factors", "found", "prime", "one"]) (sc := defScope s_parts_of) (by decide +kernel)) (fun _ _ _ _ _ => (pg_name (i := 3) sc_parts_of.nd rfl (Or.inl rfl))) (fun _ _ _ _ _ => (pts_one (pt_cmpR op_notIn_seq (pv 3) (pv 1) (by rfl)))) (fun _ _ _ _ _ => (pv 3)))))))
      (pss_one (ps_ret (pe_callB (cr_sortedSet rfl) (by rfl) T.n_sorted (by decide +kernel) (pa_cons (pe_callTy (cr_setI rfl) (by rfl) T.n_set (by decide +kernel) (pa_cons (pv 1) pa_nil)) pa_nil)))))), rd_parts_of T vs H Q E h⟩
end
end CP

namespace CP
open PySem L2
section
variable {P : Program} {w : World} {K : PySem.W.Frag} {mg : Str → Option Value} {base : Heap}
def sp_order (_ : Txt K mg) : Sp := fun vs H Q _ => match vs with
  | [.int b, .int v, .ref a, .ref c] => ∃ fs ps : List Nat, H a = some (.lst (natL fs)) ∧ H c = some (.lst (natL ps)) ∧ 0 ≤ b ∧ 1 ≤ v ∧ v < 2 ^ 60 ∧ (∀ q ∈ fs, Rm.Pr q ∧ q < 2 ^ 60) ∧ fs.Nodup ∧ (∀ q ∈ ps, Rm.Pr q ∧ q < 2 ^ 60) ∧
      Q (.int (Rm.order b.toNat v.toNat fs ps : Nat)) H
  | _ => False
def t_order (w : World) (T : Txt K mg) : TS := tSeq (tAsg (tCall (sp_units T) [] E0 (tCons (tVar 1) (tCons (tVar 2) (tNil)))) (gName 4)) (tSeq (tFor (iList K (tVar 3)) (gName 5) (tWhile (tAnd (tTest (tOp rEq (tOp oMod (tVar 4) (tVar 5)) (tC (.int 0)))) (tTest (tOp rEq (tCall (sp_power T) [] E0 (tCons (tVar 0) (tCons (tOp oDiv (tVar 4) (tVar 5)) (tCons (tVar 1) (tNil))))) (tOp oMod (tC (.int 1)) (tVar 1))))) (tAsg (tOp oDiv (tVar 4) (tVar 5)) (gName 4)))) (tRet (tVar 4)))
theorem len_order (T : Txt K mg) : ∀ (vs : List V) (H : Hp) (Q : VK) (E : XK), sp_order T vs H Q E → vs.length = (["base", "value", "factors", "parts"] : List Str).length := by
  intro vs H Q E h
  unfold sp_order at h
  split at h
  all_goals first | rfl | exact h.elim
theorem rd_order (T : Txt K mg) (vs : List V) (H : Hp) (Q : VK) (E : XK) (h : sp_order T vs H Q E) : t_order w T { nx := fun _ H' => Q .non H', rt := Q } (start ["base", "value", "factors", "parts", "found", "prime"] vs) H := by
  match vs, h with
  | [.int b, .int v, .ref a, .ref c], h =>
  obtain ⟨fs, ps, ha, hc, hb, hv, hv2, hf, hn, hp, q⟩ := h
  obtain ⟨v, rfl⟩ := Int.eq_ofNat_of_zero_le (Int.le_trans (by decide) hv)
  obtain ⟨b, rfl⟩ := Int.eq_ofNat_of_zero_le hb
  simp only [Int.toNat_natCast] at q
  have hv' : 0 < v := by omega
  have up := Rm.units_pos (fun q hq => (hf q hq).1) hn hv'
  have ul : Rm.units v fs ≤ v := Rm.unitsTo_le v
  unfold t_order
  walk_at "st"
  repeat walk_at "s"
  refine ⟨fs, ha, hv, hv2, hf, ?_⟩
  simp only [Int.toNat_natCast]
  repeat walk_at "s"
  refine ⟨c, rfl, ⟨_, .of hc⟩, for_list (K := K) (a := c) (xs := natL ps) (fun i σ H' => H' = H ∧ ∃ x, σ = [some (.int b), some (.int v), some (.ref a), some (.ref c), some (.int (Rm.ordTo b v (Rm.units v fs) (ps.take i) : Nat)), x]) ⟨rfl, _, rfl⟩ (fun _ _ _ _ w => by rw [w.1]; exact .of hc) ?_ ?_⟩
  · rintro i x σ H' hx ⟨rfl, z, rfl⟩
    obtain ⟨n, hn', rfl⟩ := natL_get hx
    have hpn := (hp n (List.mem_of_getElem? hn')).1.1
    have hpb := (hp n (List.mem_of_getElem? hn')).2
    have step : Rm.ordTo b v (Rm.units v fs) (ps.take (i + 1)) = Rm.strip b v n (Rm.ordTo b v (Rm.units v fs) (ps.take i)) := foldl_succ hn'
    have le := Rm.ordTo_pos (b := b) (v := v) (parts := ps.take i) up
    rw [step]
    generalize Rm.ordTo b v (Rm.units v fs) (ps.take i) = f at le ⊢
    repeat walk_at "s"
    refine r_whileD (fun (g : Nat) σ H2 => H2 = H' ∧ 0 < g ∧ g ≤ v ∧ Rm.strip b v n g = Rm.strip b v n f ∧ σ = [some (.int b), some (.int v), some (.ref a), some (.ref c), some (.int (g : Nat)), some (.int n)]) (fun g => g)
      (fun g => decide (g % n = 0 ∧ b ^ (g / n) % v = 1 % v)) f ⟨rfl, le.1, by omega, rfl, rfl⟩ ?_ ?_ ?_
    · rintro g σ H2 ⟨rfl, g1, g2, g3, rfl⟩ Q' q'
      repeat walk_at "s"
      refine if_d (fun k => ?_) fun k => ?_
      · have e1 : (g : Int) / n = ((g / n : Nat) : Int) := by simp
        have e2 : (1 : Int) % v = ((1 % v : Nat) : Int) := by simp
        repeat walk_at "s"
        rw [e1]
        refine ⟨hb, Int.natCast_nonneg _, by omega, by omega, ?_⟩
        simp only [Int.toNat_natCast]
        repeat walk_at "s"
        rw [e2]
        have k' : g % n = 0 := by omega
        have e3 : decide (g % n = 0 ∧ b ^ (g / n) % v = 1 % v) = decide (((b ^ (g / n) % v : Nat) : Int) = ((1 % v : Nat) : Int)) := by
          apply decide_eq_decide.mpr
          constructor
          · intro z; rw [z.2]
          · intro z; exact ⟨k', by omega⟩
        rw [← e3]
        exact q'
      · have e3 : decide (g % n = 0 ∧ b ^ (g / n) % v = 1 % v) = false := by
          apply decide_eq_false
          intro z
          have := z.1
          omega
        rw [e3] at q'
        exact q'
    · rintro g σ H2 ⟨rfl, g1, g2, g3, rfl⟩ hk
      have hk := of_decide_eq_true hk
      rw [Rm.strip_yes ⟨hpn, g1, hk⟩] at g3
      have e1 : (g : Int) / n = ((g / n : Nat) : Int) := by simp
      repeat walk_at "s"
      rw [e1]
      exact ⟨g / n, ⟨rfl, Nat.div_pos (Nat.le_of_dvd g1 (Nat.dvd_of_mod_eq_zero hk.1)) (by omega), Nat.le_trans (Nat.div_le_self g n) g2, g3, rfl⟩, Nat.div_lt_self g1 hpn⟩
    · rintro g σ H2 ⟨rfl, g1, g2, g3, rfl⟩ hk
      have hk := of_decide_eq_false hk
      rw [Rm.strip_no (fun z => hk z.2.2)] at g3
      rw [← g3]
      exact ⟨rfl, _, rfl⟩
  · rintro σ H' ⟨rfl, z, rfl⟩
    rw [natL_length, List.take_length]
    repeat walk_at "s"
    exact q

theorem ok_order (T : Txt K mg) : FnOk P w K mg base CX0 2 T.a_order T.fd_order ["base", "value", "factors", "parts"] (sp_order T) :=
  T.F_order.ok sc_order (len_order T) fun cdv A outer s H vs Q E hr h => ⟨t_order w T, (pss_cons (ps_set (i := 4) sc_order.nd rfl (Or.inl rfl) (pe_call (ok_units T) (hr.mono (by decide)) (by rfl) T.m_units T.F_units.kp (b_units T) .nil pass0 (pa_cons (pv 1) (pa_cons (pv 2) pa_nil))))
      (pss_cons (ps_for PassesOwn.never rfl (pi_list (pv 3)) (pg_name (i := 5) sc_order.nd rfl (Or.inl rfl)) (pss_one (ps_while PassesOwn.never (PW.pt (pw_and (pt_cmpR op_eq (pe_op op_mod (pv 4) (pv 5)) pe_int (nomark _)) (pw_and1 (pt_cmpR op_eq (pe_call (ok_power T) (hr.mono (by decide)) (by rfl) T.m_power T.F_power.kp (b_power T) .nil pass0 (pa_cons (pv 0) (pa_cons (pe_op op_fdivW (pv 4) (pv 5)) (pa_cons (pv 1) pa_nil)))) (pe_op op_mod pe_int (pv 1)) (nomark _))))) (pss_one (ps_set (i := 4) sc_order.nd rfl (Or.inl rfl) (pe_op op_fdivW (pv 4) (pv 5)))))))
      (pss_one (ps_ret (pv 4))))), rd_order T vs H Q E h⟩
end
end CP

namespace CP
open PySem L2
section
variable {P : Program} {w : World} {K : PySem.W.Frag} {mg : Str → Option Value} {base : Heap}
def sp_ring_length (T : Txt K mg) : Sp := fun vs H Q E => match vs with
  | [x, y, z] => ∃ a b c, ArgV K H x a ∧ ArgV K H y b ∧ ArgV K H z c ∧ (badR a = true → Rsd T E H x) ∧ (badR a = false → badR b = true → Rsd T E H y) ∧
      (∀ i j, a = some i → b = some j → 1 ≤ i → 1 ≤ j → i < 2 ^ 40 ∧ j < 2 ^ 40 ∧ i * j ≤ 2 ^ 31 ∧ (badP (i * j) c = true → Rsd T E H z) ∧ (badP (i * j) c = false → ∀ v H', Same H H' → Q v H'))
  | _ => False
def t_ring_length (W : WX) (w : World) (T : Txt K mg) : TS := tSeq (tDrop (tCallSD (sp_check_rows T) [] (WE W) (tCons (tVar 0) (tCons (tVar 1) (tNil))))) (tSeq (tDrop (tCallSD (sp_check_place T) [] (WE W) (tCons (tVar 0) (tCons (tVar 1) (tCons (tVar 2) (tNil)))))) (tSeq (tAsg (tOp oSub (tOp oMul (tVar 0) (tVar 1)) (tC (.int 1))) (gName 3)) (tSeq (tIfS (tTest (tOp (rIn K false) (tVar 2) (tTup (tCons (tC (.int 0)) (tCons (tVar 3) (tNil)))))) (tRet (tC (.int 1))) (tNext)) (tSeq (tAsg (tCB (rSortedSet w) (tCons (tCB (rSetI K w) (tCons (tCall (sp_primes T) [] E0 (tCons (tVar 3) (tNil))) (tNil))) (tNil))) (gName 4)) (tRet (tCall (sp_order T) [] E0 (tCons (tVar 0) (tCons (tOp oDiv (tVar 3) (tCall (sp_divisor T) [] E0 (tCons (tVar 2) (tCons (tVar 3) (tNil))))) (tCons (tVar 4) (tCons (tCall (sp_parts_of T) [] E0 (tCons (tVar 4) (tNil))) (tNil)))))))))))
theorem len_ring_length (T : Txt K mg) : ∀ (vs : List V) (H : Hp) (Q : VK) (E : XK), sp_ring_length T vs H Q E → vs.length = (["rows", "columns", "place"] : List Str).length := by
  intro vs H Q E h
  unfold sp_ring_length at h
  split at h
  all_goals first | rfl | exact h.elim
theorem rd_ring_length (T : Txt K mg) (vs : List V) (H : Hp) (Q : VK) (E : XK) (h : sp_ring_length T vs H Q E) : t_ring_length (fun cls d _ H => E cls d H) w T { nx := fun _ H' => Q .non H', rt := Q } (start ["rows", "columns", "place", "last", "factors"] vs) H := by
  match vs, h with
  | [x, y, z], h =>
  obtain ⟨a, b, c, ha, hb, hc, q1, q2, q3⟩ := h
  unfold t_ring_length
  walk_at "st"
  repeat walk_at "s"
  refine r_callSD ?_
  repeat walk_at "s"
  refine ⟨a, b, ha, hb, fun ga gb H1 s1 => ?_, q1, q2⟩
  obtain ⟨r, rfl, hr⟩ := goodR ga
  obtain ⟨c', rfl, hc'⟩ := goodR gb
  cases ha
  cases hb
  obtain ⟨hr2, hc2, hm, q4, q6⟩ := q3 r c' rfl rfl hr hc'
  repeat walk_at "s"
  refine r_callSD ?_
  repeat walk_at "s"
  refine ⟨c, hc.mono s1, by omega, by omega, by omega, by omega, fun gc H2' s2 => ?_, fun bc => (q4 bc).mono s1⟩
  obtain ⟨p, rfl, hp, hp2⟩ : ∃ k, c = some k ∧ 0 ≤ k ∧ k < r * c' := by
    cases c with
    | none => cases gc
    | some k => exact ⟨k, rfl, by simp [badP] at gc; omega⟩
  cases hc
  have q : ∀ H', Same H H' → Q (.int (Rm.ringLen r.toNat c'.toNat p.toNat : Nat)) H' := fun H' s => q6 gc _ H' s
  replace s1 := s1.trans s2
  clear s2 q1 q2 q3 q4 q6 ga gb gc
  obtain ⟨r, rfl⟩ := Int.eq_ofNat_of_zero_le (Int.le_trans (by decide) hr)
  obtain ⟨c, rfl⟩ := Int.eq_ofNat_of_zero_le (Int.le_trans (by decide) hc')
  obtain ⟨p, rfl⟩ := Int.eq_ofNat_of_zero_le hp
  simp only [Int.toNat_natCast] at q
  have hr1 : 0 < r := by omega
  have hc1 : 0 < c := by omega
  have hm1 : 0 < r * c := Nat.mul_pos hr1 hc1
  have e : (r : Int) * c - 1 = ((r * c - 1 : Nat) : Int) := by rw [← Int.natCast_mul]; omega
  have e0 : (r : Int) * c = ((r * c : Nat) : Int) := by rw [← Int.natCast_mul]
  rw [e0] at hm hp2
  repeat walk_at "s"
  rename_i t0 H2 tn ts th
  refine r_inT (.of th) rfl rfl ?_
  rw [inV_two, e]
  refine ⟨_, rfl, if_d (fun k => ?_) fun k => ?_⟩
  · repeat walk_at "s"
    have := q H2 (s1.trans ts)
    unfold Rm.ringLen at this
    rw [if_pos (by omega)] at this
    exact this
  have := q
  unfold Rm.ringLen at this
  rw [if_neg (by omega)] at this
  have hl : 0 < r * c - 1 := by omega
  generalize r * c - 1 = l at *
  repeat walk_at "s"
  refine ⟨by omega, by omega, fun b H3 b0 s3 b1 => ?_⟩
  rw [Int.toNat_natCast] at b1
  repeat walk_at "s"
  refine r_sortN b1 (by have := pf_len (v := l) hl (by omega); omega) fun f H4 s4 f0 f1 => ?_
  have f2 : H4 f = some (.lst (natL (Rm.facts l))) := f1
  repeat walk_at "s"
  refine ⟨by omega, by omega, ?_⟩
  simp only [Int.toNat_natCast]
  have g1 : 0 < p.gcd l := Nat.gcd_pos_of_pos_right _ hl
  have g5 : p.gcd l ≤ l := Nat.le_of_dvd hl (Nat.gcd_dvd_right ..)
  have g2 : l / p.gcd l ≤ l := Nat.div_le_self ..
  have g3 : 0 < l / p.gcd l := Nat.div_pos (Nat.le_of_dvd hl (Nat.gcd_dvd_right ..)) g1
  have g4 : (l : Int) / (p.gcd l : Nat) = ((l / p.gcd l : Nat) : Int) := by simp
  repeat walk_at "s"
  have fl : ∀ q ∈ Rm.facts l, Rm.Pr q ∧ q < 2 ^ 60 := fun q hq => ⟨Rm.facts_pr hq, by have := Rm.facts_lt hl hq; omega⟩
  refine ⟨_, f2, fl, Rm.parts_bound hl (by omega), fun d H5 d0 s5 d1 => ?_⟩
  repeat walk_at "s"
  rw [g4]
  refine ⟨_, _, CP.Same.to s5 f2, d1, by omega, by omega, by omega, fl, Rm.facts_nodup _, fun q hq => ⟨Rm.parts_pr (fun q hq => (fl q hq).1) q hq, by have := Rm.parts_lt hl hq; omega⟩, ?_⟩
  repeat walk_at "s"
  simp only [Int.toNat_natCast]
  exact this _ ((((s1.trans ts).trans s3).trans s4).trans s5)

theorem ok_ring_length (T : Txt K mg) : FnOk P w K mg base (L2.CX P w) 4 T.a_ring_length T.fd_ring_length ["rows", "columns", "place"] (sp_ring_length T) :=
  T.F_ring_length.okX sc_ring_length (len_ring_length T) fun cdv A outer s H vs Q E hr h => ⟨t_ring_length (fun cls d _ H => E cls d H) w T, (pss_cons (ps_expr (pe_callSD (ok_check_rows T) (hr.mono (by decide)) (by rfl) T.m_check_rows T.F_check_rows.kp (b_check_rows T) .nil (fun σ => passAt (takes_of rfl rfl rfl rfl) σ) (pa_cons (pv 0) (pa_cons (pv 1) pa_nil))))
      (pss_cons (ps_expr (pe_callSD (ok_check_place T) (hr.mono (by decide)) (by rfl) T.m_check_place T.F_check_place.kp (b_check_place T) .nil (fun σ => passAt (takes_of rfl rfl rfl rfl) σ) (pa_cons (pv 0) (pa_cons (pv 1) (pa_cons (pv 2) pa_nil)))))
      (pss_cons (ps_set (i := 3) sc_ring_length.nd rfl (Or.inl rfl) (pe_op op_sub (pe_op op_mulW (pv 0) (pv 1)) pe_int))
      (pss_cons (ps_if (pt_cmpR op_in_seq (pv 2) (pe_tup (pa_cons pe_int (pa_cons (pv 3) pa_nil))) (by rfl)) (pss_one (ps_ret pe_int)) pss_nil)
      (pss_cons (ps_set (i := 4) sc_ring_length.nd rfl (Or.inl rfl) (pe_callB (cr_sortedSet rfl) (by rfl) T.n_sorted (by decide +kernel) (pa_cons (pe_callTy (cr_setI rfl) (by rfl) T.n_set (by decide +kernel) (pa_cons (pe_call (ok_primes T) (hr.mono (by decide)) (by rfl) T.m_primes T.F_primes.kp (b_primes T) .nil pass0 (pa_cons (pv 3) pa_nil)) pa_nil)) pa_nil)))
      (pss_one (ps_ret (pe_call (ok_order T) (hr.mono (by decide)) (by rfl) T.m_order T.F_order.kp (b_order T) .nil pass0 (pa_cons (pv 0) (pa_cons (pe_op op_fdivW (pv 3) (pe_call (ok_divisor T) (hr.mono (by decide)) (by rfl) T.m_divisor T.F_divisor.kp (b_divisor T) .nil pass0 (pa_cons (pv 2) (pa_cons (pv 3) pa_nil)))) (pa_cons (pv 4) (pa_cons (pe_call (ok_parts_of T) (hr.mono (by decide)) (by rfl) T.m_parts_of T.F_parts_of.kp (b_parts_of T) .nil pass0 (pa_cons (pv 4) pa_nil)) pa_nil)))))))))))), rd_ring_length T vs H Q E h⟩
end
end CP

namespace CP
open PySem L2
section
variable {P : Program} {w : World} {K : PySem.W.Frag} {mg : Str → Option Value} {base : Heap}
def sp_divisors (_ : Txt K mg) : Sp := fun vs H Q _ => match vs with
  | [.int v] => 1 ≤ v ∧ v < 2 ^ 31 ∧ ∀ p H', H p = none → Same H H' → H' p = some (.lst (natL (Rm.divs v.toNat))) → Q (.ref p) H'
  | _ => False
def t_divisors (w : World) (T : Txt K mg) : TS := tSeq (tPar 1 2 (tCons (tLst (tCons (tC (.int 1)) (tNil))) (tCons (tCall (sp_primes T) [] E0 (tCons (tVar 0) (tNil))) (tNil)))) (tSeq (tFor (iList K (tCB (rSortedSet w) (tCons (tCB (rSetI K w) (tCons (tVar 2) (tNil))) (tNil)))) (gName 3) (tSeq (tAsg (tTup (tCons (tC (.int 1)) (tCons (tLst (tNil)) (tNil)))) (gTup K 2 (gCons (gName 4) (gCons (gName 5) gNil)))) (tSeq (tFor (iRng1 (tCons (tOp oAdd (tBM K "list" (rCntI K) (tVar 2) (tCons (tVar 3) (tNil))) (tC (.int 1))) (tNil))) (gName 6) (tSeq (tAsg (tOp rCat (tVar 5) (tLc (iList K (tVar 1)) (gName 7) (tYes) (tOp oMul (tVar 7) (tVar 4)) [7])) (gName 5)) (tAsg (tOp oMul (tVar 4) (tVar 3)) (gName 4)))) (tAsg (tVar 5) (gName 1))))) (tRet (tVar 1)))
theorem len_divisors (T : Txt K mg) : ∀ (vs : List V) (H : Hp) (Q : VK) (E : XK), sp_divisors T vs H Q E → vs.length = (["value"] : List Str).length := by
  intro vs H Q E h
  unfold sp_divisors at h
  split at h
  all_goals first | rfl | exact h.elim
theorem rd_divisors (T : Txt K mg) (vs : List V) (H : Hp) (Q : VK) (E : XK) (h : sp_divisors T vs H Q E) : t_divisors w T { nx := fun _ H' => Q .non H', rt := Q } (start ["value", "found", "every", "prime", "power_of", "longer", "turn", "one"] vs) H := by
  match vs, h with
  | [.int v], h =>
  obtain ⟨hv, hv2, q⟩ := h
  obtain ⟨v, rfl⟩ := Int.eq_ofNat_of_zero_le (Int.le_trans (by decide) hv)
  simp only [Int.toNat_natCast] at q
  have hl : 0 < v := by omega
  unfold t_divisors
  walk_at "st"
  repeat walk_at "s"
  rename_i f H1 f0 s1 f1
  refine ⟨by omega, by omega, fun b H3 b0 s3 b1 => ?_⟩
  rw [Int.toNat_natCast] at b1
  repeat walk_at "s"
  refine r_sortN b1 (by have := pf_len (v := v) hl (by omega); omega) fun g H4 s4 g0 g1 => ?_
  have g2 : H4 g = some (.lst (natL (Rm.facts v))) := g1
  repeat walk_at "s"
  have F0 : H f = none := f0
  have S4 := (s1.trans s3).trans s4
  refine ⟨g, rfl, ⟨_, .of g2⟩, for_list (K := K) (a := g) (xs := natL (Rm.facts v)) (fun i σ H' => Same H4 H' ∧ ∃ f' x3 x4 x5 x6 x7, H f' = none ∧ H' f' = some (.lst (natL (Rm.divsTo (Rm.pf v) [1] ((Rm.facts v).take i)))) ∧ σ = [some (.int v), some (.ref f'), some (.ref b), x3, x4, x5, x6, x7]) ⟨Same.refl _, f, _, _, _, _, _, f0, CP.Same.to s4 (CP.Same.to s3 f1), rfl⟩ (fun _ _ _ _ w => .of (CP.Same.to w.1 g2)) ?_ ?_⟩
  · rintro i x σ H' hx ⟨s, f', y3, y4, y5, y6, y7, f0', hf, rfl⟩
    obtain ⟨n, hn, rfl⟩ := natL_get hx
    have hm := List.mem_of_getElem? hn
    have hpn := (Rm.facts_pr hm).1
    have hpv := Rm.facts_lt hl hm
    have step : Rm.divsTo (Rm.pf v) [1] ((Rm.facts v).take (i + 1)) = Rm.longer (Rm.divsTo (Rm.pf v) [1] ((Rm.facts v).take i)) n ((Rm.pf v).count n + 1) := foldl_succ hn
    have lt := Rm.divs_length (i := i + 1) hl (by omega)
    have dv : ∀ d ∈ Rm.divsTo (Rm.pf v) [1] ((Rm.facts v).take i), d ∣ v := fun d hd => Rm.divs_dvd hl hd
    rw [step] at lt ⊢
    generalize Rm.divsTo (Rm.pf v) [1] ((Rm.facts v).take i) = found at lt dv hf ⊢
    have cl : (Rm.pf v).count n ≤ (Rm.pf v).length := List.count_le_length
    have cp := Nat.le_of_dvd hl (Rm.count_dvd (p := n) hl)
    have pl := pf_len (v := v) hl (by omega)
    have b2 := CP.Same.to s (CP.Same.to s4 b1)
    rw [natL_int] at b2
    repeat walk_at "s"
    rename_i L0 Ha L0n sa La T0 Hb T0n sb Tb
    have b3 := CP.Same.to sb (CP.Same.to sa b2)
    refine ⟨.inl ⟨rfl, _, .of b3⟩, ?_⟩
    repeat walk_at "s"
    refine ⟨b, _, n, rfl, rfl, .of b3, ?_⟩
    rw [count_nat]
    generalize hk : (Rm.pf v).count n = k at *
    repeat walk_at "s"
    have ek : ((k : Int) + 1).toNat = k + 1 := by omega
    rw [ek]
    have hf2 := CP.Same.to sb (CP.Same.to sa hf)
    refine for_range (fun t σ H' => Same Hb H' ∧ ∃ l' x6 x7, H l' = none ∧ H' l' = some (.lst (natL (Rm.longer found n t))) ∧ σ = [some (.int v), some (.ref f'), some (.ref b), some (.int n), some (.int (n ^ t : Nat)), some (.ref l'), x6, x7]) ⟨Same.refl _, L0, _, _, (S4.trans s).free L0n, CP.Same.to sb La, rfl⟩ ?_ ?_
    · rintro t σ H5 ht ⟨s5, l', y6, y7, l0', hl', rfl⟩
      have step2 : Rm.longer found n (t + 1) = Rm.longer found n t ++ found.map (· * n ^ t) := by
        unfold Rm.longer
        rw [List.range_succ, List.flatMap_append]
        simp
      have pt : n ^ t ≤ v := Nat.le_trans (Nat.pow_le_pow_right (by omega) (by omega)) cp
      have lt2 : (Rm.longer found n t).length ≤ (Rm.longer found n (k + 1)).length := by
        rw [Rm.longer_length, Rm.longer_length]
        exact Nat.mul_le_mul (by omega) (Nat.le_refl _)
      have lt3 : found.length ≤ (Rm.longer found n (k + 1)).length := by
        rw [Rm.longer_length]
        exact Nat.le_mul_of_pos_left _ (by omega)
      have pe : n ^ (t + 1) = n ^ t * n := Nat.pow_succ ..
      rw [step2, pe]
      generalize Rm.longer found n t = lo at hl' lt2 ⊢
      generalize n ^ t = w at pt ⊢
      have sz : sizeLine = 16777216 := rfl
      repeat walk_at "s"
      refine ⟨f', rfl, ⟨_, .of (CP.Same.to s5 hf2)⟩, ?_⟩
      intro D hD
      refine lc_pure (K := K) (a := f') (xs := natL found) (fun x => true) (fun x => match x with | .int i => .int (i * w) | v => v) hD (.of (CP.Same.to s5 hf2)) (by rw [natL_length]; omega) ?_ ?_
      · rintro x hx H6 s6 R c
        obtain ⟨m, hm', rfl⟩ := List.mem_map.mp hx
        have mv := Nat.le_of_dvd hl (dv m hm')
        refine CP.r_name ?_
        dsimp only [wipe, List.set_cons_zero, List.set_cons_succ, List.foldl_cons, List.foldl_nil]
        refine c _ ⟨rfl, fun Q' q' => q', fun _ Q' q' => ?_⟩
        repeat walk_at "s"
        exact q'
      · intro H6 s6 d6
        have ed : ((natL found).filter fun x => true).map (fun x => match x with | V.int i => V.int (i * w) | v => v) = natL (found.map (· * w)) := by
          rw [List.filter_eq_self.mpr fun _ _ => rfl]
          unfold natL
          rw [List.map_map, List.map_map]
          refine List.map_congr_left fun z _ => ?_
          show V.int ((z : Int) * (w : Int)) = V.int ((z * w : Nat) : Int)
          rw [Int.natCast_mul]
        rw [ed] at d6
        refine r_cat (CP.Same.to s6 hl') d6 (by rw [natL_length, natL_length, List.length_map]; omega) fun r H7 r0 s7 r7 => ?_
        rw [← natL_app] at r7
        repeat walk_at "s"
        rw [← Int.natCast_mul]
        exact ⟨(s5.trans s6).trans s7, r, _, _, ((((S4.trans s).trans (sa.trans sb)).trans s5).trans s6).free r0, r7, rfl⟩
    · rintro σ H5 ⟨s5, l', y6, y7, l0', hl', rfl⟩
      repeat walk_at "s"
      exact ⟨((s.trans sa).trans sb).trans s5, l', _, _, _, _, _, l0', hl', rfl⟩
  · rintro σ H' ⟨s, f', y3, y4, y5, y6, y7, f0', hf, rfl⟩
    rw [natL_length, List.take_length] at hf
    repeat walk_at "s"
    exact q f' H' f0' (S4.trans s) hf

theorem ok_divisors (T : Txt K mg) : FnOk P w K mg base CX0 2 T.a_divisors T.fd_divisors ["value"] (sp_divisors T) :=
  T.F_divisors.ok sc_divisors (len_divisors T) fun cdv A outer s H vs Q E hr h => ⟨t_divisors w T, (pss_cons (ps_par (i := 1) (j := 2) rfl sc_divisors.nd rfl rfl (by decide) rfl rfl (pa_cons (pe_lst (pa_cons pe_int pa_nil)) (pa_cons (pe_call (ok_primes T) (hr.mono (by decide)) (by rfl) T.m_primes T.F_primes.kp (b_primes T) .nil pass0 (pa_cons (pv 0) pa_nil)) pa_nil)) (by rfl))
      (pss_cons (ps_for PassesOwn.never rfl (pi_list (pe_callB (cr_sortedSet rfl) (by rfl) T.n_sorted (by decide +kernel) (pa_cons (pe_callTy (cr_setI rfl) (by rfl) T.n_set (by decide +kernel) (pa_cons (pv 2) pa_nil)) pa_nil))) (pg_name (i := 3) sc_divisors.nd rfl (Or.inl rfl)) (pss_cons (ps_asg (pe_tup (pa_cons pe_int (pa_cons (pe_lst pa_nil) pa_nil))) (pg_tup rfl (pgs_cons (pg_name (i := 4) sc_divisors.nd rfl (Or.inr rfl)) (pgs_cons (pg_name (i := 5) sc_divisors.nd rfl (Or.inl rfl)) pgs_nil))))
      (pss_cons (ps_for PassesOwn.never rfl (pi_range1 (by rfl) T.n_range (pa_cons (pe_op op_add (pe_bm PySem.F.plainAttrs_list PySem.F.slot_list_count PySem.F.type_list_count mt_lcount (pv 2) (pa_cons (pv 3) pa_nil)) pe_int) pa_nil)) (pg_name (i := 6) sc_divisors.nd rfl (Or.inl rfl)) (pss_cons (ps_set (i := 5) sc_divisors.nd rfl (Or.inl rfl) (pe_op op_cat (pv 5) (pe_lc (own := [("one", 7)]) (g := (gName 7)) (tt := tYes) (te := tOp oMul (tVar 7) (tVar 4)) rfl sc_divisors.nd (pi_list (pv 1)) (blkOk_by (own := [("one", 7)]) (N := ["value", "found", "every", "prime", "power_of", "longer", "turn", "one"]) (sc := defScope s_divisors) (by decide +kernel)) (fun _ _ _ _ _ => (pg_name (i := 7) sc_divisors.nd rfl (Or.inl rfl))) (fun _ _ _ _ _ => pts_nil) (fun _ _ _ _ _ => (pe_op op_mulW (pv 7) (pv 4))))))
      (pss_one (ps_set (i := 4) sc_divisors.nd rfl (Or.inr rfl) (pe_op op_mulW (pv 4) (pv 3))))))
      (pss_one (ps_set (i := 1) sc_divisors.nd rfl (Or.inl rfl) (pv 5))))))
      (pss_one (ps_ret (pv 1))))), rd_divisors T vs H Q E h⟩
end
end CP

namespace CP
open PySem L2
section
variable {P : Program} {w : World} {K : PySem.W.Frag} {mg : Str → Option Value} {base : Heap}
def cz (p : Nat × Nat) : Int × Int := ((p.1 : Int), (p.2 : Int))
def sp_rings (T : Txt K mg) : Sp := fun vs H Q E => match vs with
  | [x, y] => ∃ a b, ArgV K H x a ∧ ArgV K H y b ∧ (badR a = true → Rsd T E H x) ∧ (badR a = false → badR b = true → Rsd T E H y) ∧
      (∀ i j, a = some i → b = some j → 1 ≤ i → 1 ≤ j → i < 2 ^ 40 ∧ j < 2 ^ 40 ∧ i * j ≤ 2 ^ 31 ∧ ∀ v H', Same H H' → Q v H')
  | _ => False
def cst (d : List (Nat × Nat)) : List (Key × V) := (d.map cz).map fun p => (Sum.inl p.1, V.int p.2)
theorem cst_len (d : List (Nat × Nat)) : (cst d).length = d.length := by unfold cst; rw [List.length_map, List.length_map]
theorem cst_val (d : List (Nat × Nat)) (k : Nat) : valV (cst d) (Sum.inl (k : Int)) = ((d.find? fun p => decide (p.1 = k)).map (·.2)).map fun n : Nat => V.int (n : Int) := by
  induction d with
  | nil => rfl
  | cons p d ih =>
    show valV ((Sum.inl (p.1 : Int), V.int (p.2 : Int)) :: cst d) _ = _
    by_cases e : p.1 = k
    · rw [valV_pos (by rw [e]), List.find?_cons, decide_eq_true e]
      rfl
    · rw [valV_neg (fun z => e (by injection z with z; omega)), ih, List.find?_cons, decide_eq_false e]
theorem cst_get (d : List (Nat × Nat)) (k : Nat) : (valV (cst d) (Sum.inl (k : Int))).getD (.int 0) = .int (Rm.getI d k : Nat) := by
  rw [cst_val]
  unfold Rm.getI
  cases (d.find? fun p => decide (p.1 = k)) <;> rfl
theorem cst_put (d : List (Nat × Nat)) (k v : Nat) : putK (cst d) (Sum.inl (k : Int)) (.int (v : Int)) = cst (Rm.putI d k v) := by
  unfold putK Rm.putI
  have e : ((cst d).any fun kv => decide (kv.1 = (Sum.inl (k : Int) : Key))) = d.any fun p => decide (p.1 = k) := by
    unfold cst
    rw [List.map_map, List.any_map]
    congr 1
    funext p
    show decide ((Sum.inl (p.1 : Int) : Key) = Sum.inl (k : Int)) = decide (p.1 = k)
    refine decide_eq_decide.mpr ⟨fun z => by injection z with z; omega, fun z => by rw [z]⟩
  rw [e]
  by_cases h : (d.any fun p => decide (p.1 = k)) = true
  · rw [if_pos h, if_pos h]
    unfold cst
    rw [List.map_map, List.map_map, List.map_map, List.map_map]
    refine List.map_congr_left fun p _ => ?_
    show (if (Sum.inl (p.1 : Int) : Key) = Sum.inl (k : Int) then ((Sum.inl (p.1 : Int) : Key), V.int (v : Int)) else (Sum.inl (p.1 : Int), V.int (p.2 : Int))) = (Sum.inl ((if p.1 = k then (p.1, v) else p).1 : Int), V.int ((if p.1 = k then (p.1, v) else p).2 : Int))
    by_cases z : p.1 = k
    · rw [if_pos (by rw [z]), if_pos z]
    · rw [if_neg (fun y => z (by injection y with y; omega)), if_neg z]
  · rw [if_neg h, if_neg h]
    unfold cst
    rw [List.map_append, List.map_append]
    rfl
theorem perm_of_map {α β : Type} [DecidableEq α] [DecidableEq β] {f : α → β} (inj : ∀ a b, f a = f b → a = b) {l m : List α} (h : (l.map f).Perm (m.map f)) : l.Perm m := by
  rw [List.perm_iff_count] at h ⊢
  have ct : ∀ (l : List α) (a : α), (l.map f).count (f a) = l.count a := by
    intro l a
    induction l with
    | nil => rfl
    | cons b l ih =>
      rw [List.map_cons, List.count_cons, List.count_cons, ih]
      by_cases e : b = a
      · subst e; simp
      · have e1 : (f b == f a) = false := by rw [beq_eq_false_iff_ne]; exact fun z => e (inj _ _ z)
        have e2 : (b == a) = false := by rw [beq_eq_false_iff_ne]; exact e
        rw [e1, e2]
  intro a
  have := h (f a)
  rwa [ct, ct] at this
def t_rings (W : WX) (w : World) (T : Txt K mg) : TS := tSeq (tDrop (tCallSD (sp_check_rows T) [] (WE W) (tCons (tVar 0) (tCons (tVar 1) (tNil))))) (tSeq (tAsg (tOp oSub (tOp oMul (tVar 0) (tVar 1)) (tC (.int 1))) (gName 2)) (tSeq (tIfS (tTest (tOp rEq (tVar 2) (tC (.int 0)))) (tRet (tLst (tCons (tTup (tCons (tC (.int 1)) (tCons (tC (.int 1)) (tNil)))) (tNil)))) (tNext)) (tSeq (tPar 3 4 (tCons (tCB (rSortedSet w) (tCons (tCB (rSetI K w) (tCons (tCall (sp_primes T) [] E0 (tCons (tVar 2) (tNil))) (tNil))) (tNil))) (tCons (tDisp ((tC (.int 1), tC (.int 1)) :: [])) (tNil)))) (tSeq (tAsg (tCall (sp_parts_of T) [] E0 (tCons (tVar 3) (tNil))) (gName 5)) (tSeq (tFor (iList K (tCall (sp_divisors T) [] E0 (tCons (tVar 2) (tNil)))) (gName 6) (tSeq (tAsg (tCall (sp_order T) [] E0 (tCons (tVar 0) (tCons (tVar 6) (tCons (tVar 3) (tCons (tVar 5) (tNil)))))) (gName 7)) (sDPut (tVar 4) (tVar 7) (tOp oAdd (tDGet2 (tVar 4) (tVar 7) (tC (.int 0))) (tOp oDiv (tCall (sp_units T) [] E0 (tCons (tVar 6) (tCons (tVar 3) (tNil)))) (tVar 7)))))) (tRet (tSortedItems (tVar 4))))))))
theorem len_rings (T : Txt K mg) : ∀ (vs : List V) (H : Hp) (Q : VK) (E : XK), sp_rings T vs H Q E → vs.length = (["rows", "columns"] : List Str).length := by
  intro vs H Q E h
  unfold sp_rings at h
  split at h
  all_goals first | rfl | exact h.elim
theorem rd_rings (T : Txt K mg) (vs : List V) (H : Hp) (Q : VK) (E : XK) (h : sp_rings T vs H Q E) : t_rings (fun cls d _ H => E cls d H) w T { nx := fun _ H' => Q .non H', rt := Q } (start ["rows", "columns", "last", "factors", "found", "parts", "value", "length"] vs) H := by
  match vs, h with
  | [x, y], h =>
  obtain ⟨a, b, ha, hb, q1, q2, q3⟩ := h
  unfold t_rings
  walk_at "st"
  repeat walk_at "s"
  refine r_callSD ?_
  repeat walk_at "s"
  refine ⟨a, b, ha, hb, fun ga gb H1 s1 => ?_, q1, q2⟩
  obtain ⟨r, rfl, hr⟩ := goodR ga
  obtain ⟨c', rfl, hc'⟩ := goodR gb
  cases ha
  cases hb
  obtain ⟨hr2, hc2, hm, q6⟩ := q3 r c' rfl rfl hr hc'
  have q : ∀ p H', H p = none → Same H H' → PairsAt H' p ((Rm.ringsL r.toNat c'.toNat).map cz) → Q (.ref p) H' := fun p H' _ s _ => q6 _ H' s
  clear q1 q2 q3 q6 ga gb
  obtain ⟨r, rfl⟩ := Int.eq_ofNat_of_zero_le (Int.le_trans (by decide) hr)
  obtain ⟨c, rfl⟩ := Int.eq_ofNat_of_zero_le (Int.le_trans (by decide) hc')
  simp only [Int.toNat_natCast] at q
  have hr1 : 0 < r := by omega
  have hc1 : 0 < c := by omega
  have hm1 : 0 < r * c := Nat.mul_pos hr1 hc1
  have e : (r : Int) * c - 1 = ((r * c - 1 : Nat) : Int) := by rw [← Int.natCast_mul]; omega
  have e0 : (r : Int) * c = ((r * c : Nat) : Int) := by rw [← Int.natCast_mul]
  rw [e0] at hm
  repeat walk_at "s"
  rw [e]
  refine if_d (fun k => ?_) fun k => ?_
  · repeat walk_at "s"
    rename_i t H2 t0 s2 t1 p H3 p0 s3 p1
    refine q p H3 ((s1.trans s2).free p0) ((s1.trans s2).trans s3) ?_
    unfold Rm.ringsL
    rw [if_pos (by omega)]
    exact ⟨[t], p1, .cons (CP.Same.to s3 t1) .nil⟩
  unfold Rm.ringsL at q
  rw [if_neg (by omega)] at q
  have hl : 0 < r * c - 1 := by omega
  generalize r * c - 1 = l at *
  repeat walk_at "s"
  refine ⟨by omega, by omega, fun b H3 b0 s3 b1 => ?_⟩
  rw [Int.toNat_natCast] at b1
  repeat walk_at "s"
  refine r_sortN b1 (by have := pf_len (v := l) hl (by omega); omega) fun f H4 s4 f0 f1 => ?_
  have f2 : H4 f = some (.lst (natL (Rm.facts l))) := f1
  repeat walk_at "s"
  rename_i d H5 d0 s5 d1
  have f3 := CP.Same.to s5 f2
  have fl : ∀ q ∈ Rm.facts l, Rm.Pr q ∧ q < 2 ^ 60 := fun q hq => ⟨Rm.facts_pr hq, by have := Rm.facts_lt hl hq; omega⟩
  have pl : ∀ q ∈ Rm.parts (Rm.facts l), Rm.Pr q ∧ q < 2 ^ 60 := fun q hq => ⟨Rm.parts_pr (fun q hq => (fl q hq).1) q hq, by have := Rm.parts_lt hl hq; omega⟩
  refine ⟨_, f3, fl, Rm.parts_bound hl (by omega), fun g H6 g0 s6 g1 => ?_⟩
  repeat walk_at "s"
  refine ⟨by omega, by omega, fun v H7 v0 s7 v1 => ?_⟩
  rw [Int.toNat_natCast] at v1
  have f4 := CP.Same.to s7 (CP.Same.to s6 f3)
  have g4 := CP.Same.to s7 g1
  have d4 := CP.Same.to s7 (CP.Same.to s6 d1)
  have fd : f ≠ d := ne_of_none f2 d0
  have gd : g ≠ d := (ne_of_none d1 g0).symm
  have vd : v ≠ d := (ne_of_none (CP.Same.to s6 d1) v0).symm
  have S : Same H H7 := ((((s1.trans s3).trans s4).trans s5).trans s6).trans s7
  have D0 : H d = none := ((s1.trans s3).trans s4).free d0
  refine ⟨v, rfl, ⟨_, .of v1⟩, for_list (K := K) (a := v) (xs := natL (Rm.divs l)) (fun i σ H' => SB d H7 H' ∧ H' d = some (.dK (cst (Rm.ringD r l ((Rm.divs l).take i)))) ∧ ∃ x y, σ = [some (.int r), some (.int c), some (.int l), some (.ref f), some (.ref d), some (.ref g), x, y]) ⟨fun _ _ _ z => z, d4, _, _, rfl⟩ (fun _ _ _ _ w => .of (w.1 _ _ vd v1)) ?_ ?_⟩
  · rintro i x σ H' hx ⟨s, hd, y6, y7, rfl⟩
    obtain ⟨n, hn, rfl⟩ := natL_get hx
    have hm := List.mem_of_getElem? hn
    have np := Rm.divs_pos n hm
    have nl : n ≤ l := Nat.le_of_dvd hl (Rm.divs_dvd (i := (Rm.facts l).length) hl (by rw [List.take_length]; exact hm))
    have step : Rm.ringD r l ((Rm.divs l).take (i + 1)) = Rm.ringStep r (Rm.facts l) (Rm.parts (Rm.facts l)) (Rm.ringD r l ((Rm.divs l).take i)) n := foldl_succ hn
    have len := (Rm.ringD_spec (r := r) (v := l) (ds := (Rm.divs l).take i)).2.2
    have len2 := Rm.divs_length (i := (Rm.facts l).length) hl (by omega)
    rw [List.take_length] at len2
    have len3 : ((Rm.divs l).take i).length ≤ (Rm.divs l).length := by rw [List.length_take]; omega
    change (Rm.divs l).length < 2 ^ 18 at len2
    rw [step]
    generalize Rm.ringD r l ((Rm.divs l).take i) = dd at hd len ⊢
    have op := Rm.order_pos (b := r) (v := n) (ps := Rm.parts (Rm.facts l)) (fun q hq => (fl q hq).1) (Rm.facts_nodup l) np
    have ol : Rm.order r n (Rm.facts l) (Rm.parts (Rm.facts l)) ≤ n := Nat.le_trans (Rm.ordTo_pos (Rm.units_pos (fun q hq => (fl q hq).1) (Rm.facts_nodup l) np)).2 (Rm.unitsTo_le n)
    have ul : Rm.units n (Rm.facts l) ≤ n := Rm.unitsTo_le n
    have f5 := s _ _ fd f4
    have g5 := s _ _ gd g4
    unfold Rm.ringStep
    repeat walk_at "s"
    refine ⟨_, _, f5, g5, by omega, by omega, by omega, fl, Rm.facts_nodup l, pl, ?_⟩
    simp only [Int.toNat_natCast]
    generalize Rm.order r n (Rm.facts l) (Rm.parts (Rm.facts l)) = o at op ol ⊢
    repeat walk_at "s"
    refine ⟨d, rfl, .inl ⟨_, .inl hd⟩, ?_⟩
    repeat walk_at "s"
    refine ⟨_, .inl ⟨_, Sum.inl (o : Int), .inl hd, rfl, rfl⟩, ?_⟩
    rw [cst_get]
    repeat walk_at "s"
    refine ⟨_, f5, by omega, by omega, fl, ?_⟩
    simp only [Int.toNat_natCast]
    generalize Rm.units n (Rm.facts l) = u at ul ⊢
    repeat walk_at "s"
    have eu : (Rm.getI dd o : Int) + (u : Int) / o = ((Rm.getI dd o + u / o : Nat) : Int) := by simp
    rw [eu]
    have sz : sizeLine = 16777216 := rfl
    repeat walk_at "s"
    refine ⟨d, _, rfl, .inl ⟨_, Sum.inl (o : Int), hd, rfl, by rw [cst_len]; omega, rfl⟩, ?_⟩
    rw [cst_put]
    exact ⟨fun b o' hb hb' => by rw [upd_ne hb]; exact s b o' hb hb', upd_same, _, _, rfl⟩
  · rintro σ H' ⟨s, hd, y6, y7, rfl⟩
    rw [natL_length, List.take_length] at hd
    repeat walk_at "s"
    unfold tSortedItems
    repeat walk_at "s"
    have sp := Rm.ringD_spec (r := r) (v := l) (ds := Rm.divs l)
    refine ⟨d, (Rm.ringD r l (Rm.divs l)).map cz, rfl, hd, fun z => sp.2.1 (List.map_eq_nil_iff.mp z), fun qs p H8 hp hs s8 p0 p1 => ?_⟩
    have cq : ∃ m : List (Nat × Nat), qs = m.map cz := by
      refine ⟨qs.map fun q => (q.1.toNat, q.2.toNat), ?_⟩
      rw [List.map_map]
      conv => lhs; rw [← List.map_id qs]
      refine List.map_congr_left fun z hz => ?_
      obtain ⟨y, _, rfl⟩ := List.mem_map.mp (hp.mem_iff.mp hz)
      show (_, _) = (_, _)
      unfold cz
      simp
    obtain ⟨m, rfl⟩ := cq
    have inj : ∀ a b : Nat × Nat, cz a = cz b → a = b := fun a b z => by
      obtain ⟨a1, a2⟩ := a
      obtain ⟨b1, b2⟩ := b
      simp only [cz, Prod.mk.injEq, Int.natCast_inj] at z
      rw [z.1, z.2]
    have hp2 : m.Perm (Rm.ringD r l (Rm.divs l)) := perm_of_map inj hp
    have em := Rm.sortP_of sp.1 hp2 ((List.pairwise_map.mp hs).imp fun {a b} z => by
      unfold PLe cz at z
      simp only at z
      omega)
    rw [em] at p1
    have S8 : Same H H8 := fun b o hb => s8 b o (s b o (fun e => by rw [e, D0] at hb; cases hb) (S b o hb))
    refine q p H8 ?_ S8 p1
    cases e9 : H p with
    | none => rfl
    | some o =>
      have := s p o (fun e => by rw [e, D0] at e9; cases e9) (S p o e9)
      rw [p0] at this
      cases this

theorem ok_rings (T : Txt K mg) : FnOk P w K mg base (L2.CX P w) 4 T.a_rings T.fd_rings ["rows", "columns"] (sp_rings T) :=
  T.F_rings.okX sc_rings (len_rings T) fun cdv A outer s H vs Q E hr h => ⟨t_rings (fun cls d _ H => E cls d H) w T, (pss_cons (ps_expr (pe_callSD (ok_check_rows T) (hr.mono (by decide)) (by rfl) T.m_check_rows T.F_check_rows.kp (b_check_rows T) .nil (fun σ => passAt (takes_of rfl rfl rfl rfl) σ) (pa_cons (pv 0) (pa_cons (pv 1) pa_nil))))
      (pss_cons (ps_set (i := 2) sc_rings.nd rfl (Or.inl rfl) (pe_op op_sub (pe_op op_mulW (pv 0) (pv 1)) pe_int))
      (pss_cons (ps_if (pt_cmpR op_eq (pv 2) pe_int (nomark _)) (pss_one (ps_ret (pe_lst (pa_cons (pe_tup (pa_cons pe_int (pa_cons pe_int pa_nil))) pa_nil)))) pss_nil)
      (pss_cons (ps_par (i := 3) (j := 4) rfl sc_rings.nd rfl rfl (by decide) rfl rfl (pa_cons (pe_callB (cr_sortedSet rfl) (by rfl) T.n_sorted (by decide +kernel) (pa_cons (pe_callTy (cr_setI rfl) (by rfl) T.n_set (by decide +kernel) (pa_cons (pe_call (ok_primes T) (hr.mono (by decide)) (by rfl) T.m_primes T.F_primes.kp (b_primes T) .nil pass0 (pa_cons (pv 2) pa_nil)) pa_nil)) pa_nil)) (pa_cons (pe_disp (pps_cons pe_int pe_int pps_nil) (by rfl) (by rfl) (fun z => by cases z) (by decide)) pa_nil)) (by rfl))
      (pss_cons (ps_set (i := 5) sc_rings.nd rfl (Or.inl rfl) (pe_call (ok_parts_of T) (hr.mono (by decide)) (by rfl) T.m_parts_of T.F_parts_of.kp (b_parts_of T) .nil pass0 (pa_cons (pv 3) pa_nil)))
      (pss_cons (ps_for (passes_of rfl) rfl (pi_list (pe_call (ok_divisors T) (hr.mono (by decide)) (by rfl) T.m_divisors T.F_divisors.kp (b_divisors T) .nil pass0 (pa_cons (pv 2) pa_nil))) (pg_name (i := 6) sc_rings.nd rfl (Or.inl rfl)) (pss_cons (ps_set (i := 7) sc_rings.nd rfl (Or.inl rfl) (pe_call (ok_order T) (hr.mono (by decide)) (by rfl) T.m_order T.F_order.kp (b_order T) .nil pass0 (pa_cons (pv 0) (pa_cons (pv 6) (pa_cons (pv 3) (pa_cons (pv 5) pa_nil))))))
      (pss_one (ps_dput (hu_of hr) (pv 4) (pv 7) (pe_op op_add (pe_dget2 (hu_of hr) (pv 4) (pv 7) pe_int ⟨by rfl, by rfl, by rfl, by rfl⟩) (pe_op op_fdivW (pe_call (ok_units T) (hr.mono (by decide)) (by rfl) T.m_units T.F_units.kp (b_units T) .nil pass0 (pa_cons (pv 6) (pa_cons (pv 3) pa_nil))) (pv 7))) rfl))))
      (pss_one (ps_ret (pe_sortedItems rfl (pv 4) (by rfl) T.n_sorted))))))))), rd_rings T vs H Q E h⟩
end
end CP

namespace CP
open PySem L2
section
variable {P : Program} {w : World} {K : PySem.W.Frag} {mg : Str → Option Value} {base : Heap}
theorem cut_ints (ns : List Int) (lo hi : Option Int) : ∃ ms : List Int, cutV (ns.map V.int) lo hi = ms.map V.int := by
  unfold cutV
  rw [← List.map_drop, ← List.map_take]
  exact ⟨_, rfl⟩
/-- a purse: its first, second and third item -/
def Purse (H : Hp) (p : Addr) (x y z : Int) : Prop := H p = some (.lst [.int x, .int y, .int z]) ∧ 0 ≤ x ∧ x < 10 ^ 480 ∧ 0 ≤ y ∧ y < 2147483629 ∧ 0 ≤ z
theorem Purse.mono {H H' : Hp} {p : Addr} {x y z : Int} (h : Purse H p x y z) (s : Same H H') : Purse H' p x y z := ⟨CP.Same.to s h.1, h.2⟩
theorem Purse.sb {H H' : Hp} {p q : Addr} {x y z : Int} (h : Purse H p x y z) (s : SB q H H') (n : p ≠ q) : Purse H' p x y z := ⟨s _ _ n h.1, h.2⟩
theorem pow18 : CPw 10 18 := ⟨by decide, by decide, by decide +kernel⟩
theorem pow60 : CPw 10 60 := ⟨by decide, by decide, by decide +kernel⟩
theorem pow608 : CPw (10 ^ (60 : Int).toNat) 8 := ⟨by decide, by decide, by decide +kernel⟩
theorem pow480 : ((10 : Int) ^ (60 : Int).toNat) ^ (8 : Int).toNat = 10 ^ 480 := by decide +kernel
def sp_law_purse (_ : Txt K mg) : Sp := fun vs H Q _ => match vs with
  | [.ref a, .int i] => ∃ ns : List Int, SqL K H a (ns.map V.int) ∧ 0 ≤ i ∧ i < 2 ^ 40 ∧ ∀ p H' x y, H p = none → Same H H' → Purse H' p x y (1000 * i) → Q (.ref p) H'
  | _ => False
def t_law_purse (w : World) (T : Txt K mg) : TS := tSeq (tAsg (tCB (rSum K) (tCons (tSl (rSlL K) (tVar 0) (tPart (tVar 1)) (tPart (tOp oAdd (tVar 1) (tC (.int 1))))) (tNil))) (gName 2)) (tRet (tLst (tCons (tOp oMod (tCB oMax2 (tCons (tOp oSub (tVar 2) (tOp oPow (tC (.int 10)) (tC (.int 18)))) (tCons (tC (.int 0)) (tNil)))) (tOp oPow (tOp oPow (tC (.int 10)) (tC (.int 60))) (tC (.int 8)))) (tCons (tOp oMod (tVar 2) (tC (.int 2147483629))) (tCons (tOp oMul (tC (.int 1000)) (tVar 1)) (tNil))))))
theorem len_law_purse (T : Txt K mg) : ∀ (vs : List V) (H : Hp) (Q : VK) (E : XK), sp_law_purse T vs H Q E → vs.length = (["_law_script", "_law_at"] : List Str).length := by
  intro vs H Q E h
  unfold sp_law_purse at h
  split at h
  all_goals first | rfl | exact h.elim
theorem rd_law_purse (T : Txt K mg) (vs : List V) (H : Hp) (Q : VK) (E : XK) (h : sp_law_purse T vs H Q E) : t_law_purse w T { nx := fun _ H' => Q .non H', rt := Q } (start ["_law_script", "_law_at", "_law_cell"] vs) H := by
  match vs, h with
  | [.ref a, .int i], h =>
  obtain ⟨ns, ha, hi, hi2, q⟩ := h
  unfold t_law_purse
  walk_at "st"
  repeat walk_at "s"
  rename_i l H1 l0 s1 l1
  obtain ⟨ms, e⟩ := cut_ints ns (some i) (some (i + 1))
  rw [e] at l1
  refine r_sum (.of l1) ?_
  generalize ms.sum = c
  repeat walk_at "s"
  refine r_I pow18 ?_
  repeat walk_at "s"
  refine r_I pow60 ?_
  repeat walk_at "s"
  refine r_I pow608 ?_
  rw [pow480]
  refine r_I (by decide +kernel) ?_
  repeat walk_at "s"
  rename_i p H2 p0 s2 p1
  have t : (0 : Int) < 10 ^ 480 := by decide +kernel
  refine q p H2 _ _ (s1.free p0) (s1.trans s2) ⟨p1, Int.emod_nonneg _ (by omega), Int.emod_lt_of_pos _ t, by omega, by omega, by omega⟩

theorem ok_law_purse (T : Txt K mg) : FnOk P w K mg base CX0 1 T.a_law_purse T.fd_law_purse ["_law_script", "_law_at"] (sp_law_purse T) :=
  T.F_law_purse.ok sc_law_purse (len_law_purse T) fun cdv A outer s H vs Q E hr h => ⟨t_law_purse w T, (pss_cons (ps_set (i := 2) sc_law_purse.nd rfl (Or.inl rfl) (pe_callB (cr_sum rfl) (by rfl) T.n_sum (by decide +kernel) (pa_cons (pe_slice sl_list (pv 0) (po_some (pv 1)) (po_some (pe_op op_add (pv 1) pe_int))) pa_nil)))
      (pss_one (ps_ret (pe_lst (pa_cons (pe_op op_mod (pe_callB (call_maxA rfl) (by rfl) T.n_max (by decide +kernel) (pa_cons (pe_op op_sub (pv 2) (pe_op op_powW pe_int pe_int)) (pa_cons pe_int pa_nil))) (pe_op op_powW (pe_op op_powW pe_int pe_int) pe_int)) (pa_cons (pe_op op_mod (pv 2) pe_int) (pa_cons (pe_op op_mulW pe_int (pv 1)) pa_nil))))))), rd_law_purse T vs H Q E h⟩
end
end CP

namespace CP
open PySem L2
section
variable {P : Program} {w : World} {K : PySem.W.Frag} {mg : Str → Option Value} {base : Heap}
def mixedM (s t : Int) : Int := ((s * 69069 + 104729 * t * t + t) % 2147483647 * ((s * 69069 + 104729 * t * t + t) % 2147483647) + 40503) % 2147483629 * 48271 % 2147483587
theorem mixedM_lt (s t : Int) : 0 ≤ mixedM s t ∧ mixedM s t < 2147483587 := by
  unfold mixedM
  omega
def sp_law_mixed (_ : Txt K mg) : Sp := fun vs H Q _ => match vs with
  | [.int s, .int t] => 0 ≤ s ∧ s < 2 ^ 40 ∧ 0 ≤ t ∧ t < 2 ^ 60 ∧ Q (.int (mixedM s t)) H
  | _ => False
def t_law_mixed (w : World) (T : Txt K mg) : TS := tSeq (tAsg (tOp oMod (tOp oAdd (tOp oAdd (tOp oMul (tVar 0) (tC (.int 69069))) (tOp oMul (tOp oMul (tC (.int 104729)) (tVar 1)) (tVar 1))) (tVar 1)) (tC (.int 2147483647))) (gName 2)) (tSeq (tAsg (tOp oMod (tOp oAdd (tOp oMul (tVar 2) (tVar 2)) (tC (.int 40503))) (tC (.int 2147483629))) (gName 2)) (tRet (tOp oMod (tOp oMul (tVar 2) (tC (.int 48271))) (tC (.int 2147483587)))))
theorem len_law_mixed (T : Txt K mg) : ∀ (vs : List V) (H : Hp) (Q : VK) (E : XK), sp_law_mixed T vs H Q E → vs.length = (["_law_seed", "_law_step"] : List Str).length := by
  intro vs H Q E h
  unfold sp_law_mixed at h
  split at h
  all_goals first | rfl | exact h.elim
theorem rd_law_mixed (T : Txt K mg) (vs : List V) (H : Hp) (Q : VK) (E : XK) (h : sp_law_mixed T vs H Q E) : t_law_mixed w T { nx := fun _ H' => Q .non H', rt := Q } (start ["_law_seed", "_law_step", "_law_found"] vs) H := by
  match vs, h with
  | [.int s, .int t], h =>
  obtain ⟨hs, hs2, ht, ht2, q⟩ := h
  unfold t_law_mixed
  walk_at "st"
  repeat walk_at "s"
  exact q

theorem ok_law_mixed (T : Txt K mg) : FnOk P w K mg base CX0 1 T.a_law_mixed T.fd_law_mixed ["_law_seed", "_law_step"] (sp_law_mixed T) :=
  T.F_law_mixed.ok sc_law_mixed (len_law_mixed T) fun cdv A outer s H vs Q E hr h => ⟨t_law_mixed w T, (pss_cons (ps_set (i := 2) sc_law_mixed.nd rfl (Or.inl rfl) (pe_op op_mod (pe_op op_add (pe_op op_add (pe_op op_mulW (pv 0) pe_int) (pe_op op_mulW (pe_op op_mulW pe_int (pv 1)) (pv 1))) (pv 1)) pe_int))
      (pss_cons (ps_set (i := 2) sc_law_mixed.nd rfl (Or.inl rfl) (pe_op op_mod (pe_op op_add (pe_op op_mulW (pv 2) (pv 2)) pe_int) pe_int))
      (pss_one (ps_ret (pe_op op_mod (pe_op op_mulW (pv 2) pe_int) pe_int))))), rd_law_mixed T vs H Q E h⟩
end
end CP

namespace CP
open PySem L2
section
variable {P : Program} {w : World} {K : PySem.W.Frag} {mg : Str → Option Value} {base : Heap}
/-- a draw below m leaves a purse, its third item at most 60 higher -/
def sp_law_draw (_ : Txt K mg) : Sp := fun vs H Q _ => match vs with
  | [.ref p, .int m] => ∃ x y z, Purse H p x y z ∧ z < 2 ^ 58 ∧ 0 < m ∧ m < 2 ^ 200 ∧ ∀ d H' x' z', 0 ≤ d → d < m → SB p H H' → Purse H' p x' y z' → z' ≤ z + 60 → Q (.int d) H'
  | _ => False
theorem purse_bits {m : Int} (h : 0 < m) (h2 : m < 2 ^ 200) : 0 ≤ ((Builtin.Int.intBits m : Nat) : Int) ∧ ((Builtin.Int.intBits m : Nat) : Int) ≤ 200 := by
  have := PyProof.Rows.intBits_le (show m.natAbs < 2 ^ 200 by omega)
  omega
def t_law_draw (w : World) (T : Txt K mg) : TS := tSeq (tIfS (tTest (tOp oGt (tOp (rIxL K) (tVar 0) (tC (.int 0))) (tC (.int 0)))) (tSeq (tAsg (tOp oMod (tOp (rIxL K) (tVar 0) (tC (.int 0))) (tVar 1)) (gName 2)) (tSeq (tAsg (tOp oDiv (tOp (rIxL K) (tVar 0) (tC (.int 0))) (tVar 1)) (gSub (tVar 0) (tC (.int 0)) rSetL)) (tRet (tVar 2)))) (tNext)) (tSeq (tAsg (tC (.int 0)) (gName 3)) (tSeq (tFor (iRng1 (tCons (tOp oAdd (tC (.int 1)) (tOp oDiv (tBits (tVar 1)) (tC (.int 28)))) (tNil))) (gName 4) (tSeq (tAsg (tOp oAdd (tOp (rIxL K) (tVar 0) (tC (.int 2))) (tC (.int 1))) (gSub (tVar 0) (tC (.int 2)) rSetL)) (tAsg (tOp oAdd (tOp oMul (tVar 3) (tC (.int 2147483587))) (tCall (sp_law_mixed T) [] E0 (tCons (tOp (rIxL K) (tVar 0) (tC (.int 1))) (tCons (tOp (rIxL K) (tVar 0) (tC (.int 2))) (tNil))))) (gName 3)))) (tRet (tOp oMod (tVar 3) (tVar 1)))))
theorem len_law_draw (T : Txt K mg) : ∀ (vs : List V) (H : Hp) (Q : VK) (E : XK), sp_law_draw T vs H Q E → vs.length = (["_law_purse_here", "_law_many"] : List Str).length := by
  intro vs H Q E h
  unfold sp_law_draw at h
  split at h
  all_goals first | rfl | exact h.elim
theorem rd_law_draw (T : Txt K mg) (vs : List V) (H : Hp) (Q : VK) (E : XK) (h : sp_law_draw T vs H Q E) : t_law_draw w T { nx := fun _ H' => Q .non H', rt := Q } (start ["_law_purse_here", "_law_many", "_law_drawn", "_law_found", "_law_piece"] vs) H := by
  match vs, h with
  | [.ref p, .int m], h =>
  obtain ⟨x, y, z, ⟨hp, x0, x1, y0, y1, z0⟩, hz, hm, hm2, q⟩ := h
  unfold t_law_draw
  walk_at "st"
  repeat walk_at "s"
  refine r_ixL (.of hp) (v := .int x) (by rfl) ?_
  repeat walk_at "s"
  refine if_d (fun k => ?_) fun k => ?_
  · repeat walk_at "s"
    refine r_ixL (.of hp) (v := .int x) (by rfl) ?_
    repeat walk_at "s"
    refine r_ixL (.of hp) (v := .int x) (by rfl) ?_
    repeat walk_at "s"
    refine r_setL (j := 0) hp (by rfl) fun H1 s1 p1 => ?_
    repeat walk_at "s"
    have d0 : 0 ≤ x / m := Int.ediv_nonneg x0 (by omega)
    have d1 : x / m ≤ x := Int.ediv_le_self _ x0
    exact q _ H1 _ z (Int.emod_nonneg _ (by omega)) (Int.emod_lt_of_pos _ hm) s1 ⟨p1, d0, by omega, y0, y1, z0⟩ (by omega)
  · repeat walk_at "s"
    have hb := purse_bits hm hm2
    generalize hg : ((Builtin.Int.intBits m : Nat) : Int) = b at hb ⊢
    refine r_rng (by omega) (by omega) ?_
    generalize hn : (1 + b / 28).toNat = n
    have hn2 : n ≤ 8 := by omega
    refine for_range (fun i σ H' => SB p H H' ∧ H' p = some (.lst [.int x, .int y, .int (z + (i : Int))]) ∧ ∃ (f : Int) (o : Option V), 0 ≤ f ∧ f < ((2 ^ (32 * i) : Nat) : Int) ∧ σ = [some (.ref p), some (.int m), none, some (.int f), o]) ⟨fun _ _ _ w => w, by rw [show ((0 : Nat) : Int) = 0 from rfl, Int.add_zero]; exact hp, 0, _, by decide, by decide, rfl⟩ ?_ ?_
    · rintro i σ H2 hi ⟨s2, p2, f, o, f0, f1, rfl⟩
      have hw : 2 ^ (32 * i) ≤ 2 ^ 256 := Nat.pow_le_pow_right (by decide) (by omega)
      have hw2 : 2 ^ (32 * (i + 1)) = 2 ^ (32 * i) * 2 ^ 32 := by rw [← Nat.pow_add]; rfl
      rw [hw2]
      generalize 2 ^ (32 * i) = w at hw f1 ⊢
      repeat walk_at "s"
      refine r_ixL (.of p2) (v := .int (z + i)) (by rfl) ?_
      repeat walk_at "s"
      refine r_setL (j := 2) p2 (by rfl) fun H3 s3 p3 => ?_
      have p4 : H3 p = some (.lst [.int x, .int y, .int (z + i + 1)]) := p3
      repeat walk_at "s"
      refine r_ixL (.of p4) (v := .int y) (by rfl) ?_
      repeat walk_at "s"
      refine r_ixL (.of p4) (v := .int (z + i + 1)) (by rfl) ?_
      repeat walk_at "s"
      refine ⟨y0, by omega, by omega, by omega, ?_⟩
      have ml := mixedM_lt y (z + i + 1)
      generalize mixedM y (z + i + 1) = g at ml ⊢
      repeat walk_at "s"
      refine ⟨fun b o hb hb' => s3 b o hb (s2 b o hb hb'), ?_, _, _, ?_, ?_, rfl⟩
      · rw [show z + ((i + 1 : Nat) : Int) = z + i + 1 by omega]
        exact p4
      · omega
      · omega
    · rintro σ H2 ⟨s2, p2, f, o, f0, f1, rfl⟩
      repeat walk_at "s"
      exact q _ H2 x (z + n) (Int.emod_nonneg _ (by omega)) (Int.emod_lt_of_pos _ hm) s2 ⟨p2, x0, x1, y0, y1, by omega⟩ (by omega)

theorem ok_law_draw (T : Txt K mg) : FnOk P w K mg base CX0 2 T.a_law_draw T.fd_law_draw ["_law_purse_here", "_law_many"] (sp_law_draw T) :=
  T.F_law_draw.ok sc_law_draw (len_law_draw T) fun cdv A outer s H vs Q E hr h => ⟨t_law_draw w T, (pss_cons (ps_if (pt_cmpR op_gt (pe_ix ix_list (pv 0) pe_int (fun _ _ => rfl)) pe_int (nomark _)) (pss_cons (ps_set (i := 2) sc_law_draw.nd rfl (Or.inl rfl) (pe_op op_mod (pe_ix ix_list (pv 0) pe_int (fun _ _ => rfl)) (pv 1)))
      (pss_cons (ps_asg (pe_op op_fdivW (pe_ix ix_list (pv 0) pe_int (fun _ _ => rfl)) (pv 1)) (pg_sub (pv 0) pe_int set_list))
      (pss_one (ps_ret (pv 2))))) pss_nil)
      (pss_cons (ps_set (i := 3) sc_law_draw.nd rfl (Or.inl rfl) pe_int)
      (pss_cons (ps_for PassesOwn.never rfl (pi_range1 (by rfl) T.n_range (pa_cons (pe_op op_add pe_int (pe_op op_fdivW (pe_bits (pv 1)) pe_int)) pa_nil)) (pg_name (i := 4) sc_law_draw.nd rfl (Or.inl rfl)) (pss_cons (ps_asg (pe_op op_add (pe_ix ix_list (pv 0) pe_int (fun _ _ => rfl)) pe_int) (pg_sub (pv 0) pe_int set_list))
      (pss_one (ps_set (i := 3) sc_law_draw.nd rfl (Or.inl rfl) (pe_op op_add (pe_op op_mulW (pv 3) pe_int) (pe_call (ok_law_mixed T) (hr.mono (by decide)) (by rfl) T.m__law_mixed T.F_law_mixed.kp (b_law_mixed T) .nil pass0 (pa_cons (pe_ix ix_list (pv 0) pe_int (fun _ _ => rfl)) (pa_cons (pe_ix ix_list (pv 0) pe_int (fun _ _ => rfl)) pa_nil))))))))
      (pss_one (ps_ret (pe_op op_mod (pv 3) (pv 1))))))), rd_law_draw T vs H Q E h⟩
end
end CP

namespace CP
open PySem L2
section
variable {P : Program} {w : World} {K : PySem.W.Frag} {mg : Str → Option Value} {base : Heap}
/-- the first wrong argument's place -/
def firstBad (way : Int) (a b c d : Option Int) : Option Nat :=
  if badR a = true then some 0 else if badR b = true then some 1 else if way = 2 then none else if badP (a.getD 0 * b.getD 0) c = true then some 2 else if way = 0 ∧ badC d = true then some 3 else none
/-- what is told of a wrong argument, or that there is none -/
def Told (H : Hp) (Q : VK) (xs : List V) : Option Nat → Prop
  | none => ∀ H', Same H H' → Q .non H'
  | some k => ∃ v, xs[k]? = some v ∧ ∀ l H', H l = none → Same H H' → H' l = some (.lst [.str "number", v]) → Q (.ref l) H'
theorem keep_num (T : Txt K mg) {D : Ends} {x1 x2 x3 x4 : Option V} {H : Hp} {v : V} (q : ∀ e H', Same H H' → ErrK H' e T.a_InvalidNumber [("value", v)] → D.nx [x1, x2, some (.ref e), none] H') :
    Rsd T (WE (wKeep K (.ref T.a_CellError) 3 (fun _ _ _ => tAsg (tVar 3) (gName 2)) (fun _ _ _ _ => False) D) [x1, x2, x3, x4]) H v := fun d H' s hd =>
  r_keep (exmTab.of T.xt (by simp)) fun a na => by
    obtain ⟨k1, k2⟩ := kept_one (D := T.a_InvalidNumber) na hd
    exact r_asg (r_var rfl (r_name (q a _ (s.trans k1) k2)))
def sp_law_called (T : Txt K mg) : Sp := fun vs H Q _ => match vs with
  | [.int way, .ref t] => ∃ x y z u a b c d, H t = some (.tup [x, y, z, u]) ∧ ArgV K H x a ∧ ArgV K H y b ∧ ArgV K H z c ∧ ArgV K H u d ∧ 0 ≤ way ∧ way ≤ 3 ∧
      (∀ i j, a = some i → b = some j → 1 ≤ i → 1 ≤ j → i ≤ 40000 ∧ j ≤ 40000 ∧ i * j ≤ 2 ^ 31) ∧ Told H Q [x, y, z, u] (firstBad way a b c d)
  | _ => False
def t_law_called (w : World) (T : Txt K mg) : TS := tSeq (tAsg (tC .non) (gName 2)) (tSeq (tTryK K (.ref T.a_CellError) 3 (fun _ _ _ => tAsg (tVar 3) (gName 2)) (fun _ _ _ _ => False) (fun W => tIfS (tTest (tOp rEq (tVar 0) (tC (.int 0)))) (tDrop (tCallSD (sp_turned T) [] (WE W) (tCons (tOp (rIxT K) (tVar 1) (tC (.int 0))) (tCons (tOp (rIxT K) (tVar 1) (tC (.int 1))) (tCons (tOp (rIxT K) (tVar 1) (tC (.int 2))) (tCons (tOp (rIxT K) (tVar 1) (tC (.int 3))) (tNil))))))) (tIfS (tTest (tOp rEq (tVar 0) (tC (.int 1)))) (tDrop (tCallSD (sp_ring_length T) [] (WE W) (tCons (tOp (rIxT K) (tVar 1) (tC (.int 0))) (tCons (tOp (rIxT K) (tVar 1) (tC (.int 1))) (tCons (tOp (rIxT K) (tVar 1) (tC (.int 2))) (tNil)))))) (tIfS (tTest (tOp rEq (tVar 0) (tC (.int 2)))) (tDrop (tCallSD (sp_rings T) [] (WE W) (tCons (tOp (rIxT K) (tVar 1) (tC (.int 0))) (tCons (tOp (rIxT K) (tVar 1) (tC (.int 1))) (tNil))))) (tDrop (tCallSD (sp_turned T) [.int 1] (WE W) (tCons (tOp (rIxT K) (tVar 1) (tC (.int 0))) (tCons (tOp (rIxT K) (tVar 1) (tC (.int 1))) (tCons (tOp (rIxT K) (tVar 1) (tC (.int 2))) (tNil)))))))))) (tRet (tIf (tB (tCB (rIsi2 K) (tCons (tVar 2) (tCons (tC (.ref T.a_InvalidNumber)) (tNil))))) (tLst (tCons (tC (.str "number")) (tCons (tErrF K (tVar 2) "value") (tNil)))) (tVar 2))))
theorem len_law_called (T : Txt K mg) : ∀ (vs : List V) (H : Hp) (Q : VK) (E : XK), sp_law_called T vs H Q E → vs.length = (["_law_way", "_law_parts"] : List Str).length := by
  intro vs H Q E h
  unfold sp_law_called at h
  split at h
  all_goals first | rfl | exact h.elim
theorem rd_law_called (T : Txt K mg) (vs : List V) (H : Hp) (Q : VK) (E : XK) (h : sp_law_called T vs H Q E) : t_law_called w T { nx := fun _ H' => Q .non H', rt := Q } (start ["_law_way", "_law_parts", "_law_caught", "error"] vs) H := by
  match vs, h with
  | [.int way, .ref t], h =>
  obtain ⟨x, y, z, u, a, b, c, d, ht, ha, hb, hc, hd, w0, w1, few, q⟩ := h
  unfold t_law_called
  walk_at "st"
  repeat walk_at "s"
  refine with_restE (fun σ H' => ∃ s3, (firstBad way a b c d = none ∧ Same H H' ∧ σ = [some (.int way), some (.ref t), some .non, s3]) ∨ ∃ k v e, firstBad way a b c d = some k ∧ [x, y, z, u][k]? = some v ∧ Same H H' ∧ ErrK H' e T.a_InvalidNumber [("value", v)] ∧ σ = [some (.int way), some (.ref t), some (.ref e), s3]) ?krest fun krest => ?kmain
  case krest =>
    rintro σ H1 ⟨s3, ⟨fb, s1, rfl⟩ | ⟨k, v, e, fb, hv, s1, he, rfl⟩⟩
    · rw [fb] at q
      repeat walk_at "s"
      refine r_isNo T.kn tk_non (by simp) ?_
      repeat walk_at "s"
      exact q _ s1
    · rw [fb] at q
      obtain ⟨v', hv', q⟩ := q
      rw [hv] at hv'
      cases hv'
      repeat walk_at "s"
      refine r_isYes (b := true) he T.e_InvalidNumber.ec (kitTab.own (i := 0) (j := 0) T.kt rfl rfl) ?_
      repeat walk_at "s"
      refine r_errF ?_
      repeat walk_at "s"
      refine ⟨e, _, _, v, rfl, he, T.e_InvalidNumber.xf, T.e_InvalidNumber.no, rfl, ?_⟩
      repeat walk_at "s"
      rename_i l H2 n2 s2 h2
      exact q l H2 (s1.free n2) (s1.trans s2) h2
  case kmain =>
    have fb0 : badR a = true → firstBad way a b c d = some 0 := fun e => by unfold firstBad; rw [if_pos e]
    have fb1 : badR a = false → badR b = true → firstBad way a b c d = some 1 := fun e1 e2 => by unfold firstBad; rw [if_neg (by simp [e1]), if_pos e2]
    have fb2 : ∀ i j, a = some i → b = some j → 1 ≤ i → 1 ≤ j → way ≠ 2 → badP (i * j) c = true → firstBad way a b c d = some 2 := fun i j e1 e2 l1 l2 w e3 => by
      subst e1 e2
      unfold firstBad
      rw [if_neg (by simp [badR]; omega), if_neg (by simp [badR]; omega), if_neg w, if_pos (show badP ((some i).getD 0 * (some j).getD 0) c = true from e3)]
    have fb3 : ∀ i j, a = some i → b = some j → 1 ≤ i → 1 ≤ j → way = 0 → badP (i * j) c = false → badC d = true → firstBad way a b c d = some 3 := fun i j e1 e2 l1 l2 w e3 e4 => by
      subst e1 e2
      unfold firstBad
      rw [if_neg (by simp [badR]; omega), if_neg (by simp [badR]; omega), if_neg (by omega), if_neg (by simp [Option.getD, e3]), if_pos ⟨w, e4⟩]
    have fbn : ∀ i j, a = some i → b = some j → 1 ≤ i → 1 ≤ j → (way = 2 ∨ (badP (i * j) c = false ∧ (way = 0 → badC d = false))) → firstBad way a b c d = none := fun i j e1 e2 l1 l2 w => by
      subst e1 e2
      unfold firstBad
      rw [if_neg (by simp [badR]; omega), if_neg (by simp [badR]; omega)]
      rcases w with w | ⟨w1, w2⟩
      · rw [if_pos w]
      · by_cases w : way = 2
        · rw [if_pos w]
        · rw [if_neg w, if_neg (by simp [Option.getD, w1]), if_neg (fun z => by have := w2 z.1; rw [this] at z; cases z.2)]
    refine r_tryK ?_
    repeat walk_at "s"
    refine if_d (fun k => ?_) fun k => ?_
    · repeat walk_at "s"
      refine r_callSD ?_
      repeat walk_at "s"
      refine r_ixT (.of ht) (v := x) (by rfl) ?_
      repeat walk_at "s"
      refine r_ixT (.of ht) (v := y) (by rfl) ?_
      repeat walk_at "s"
      refine r_ixT (.of ht) (v := z) (by rfl) ?_
      repeat walk_at "s"
      refine r_ixT (.of ht) (v := u) (by rfl) ?_
      repeat walk_at "s"
      refine ⟨a, b, c, d, ha, hb, hc, hd, fun e => keep_num T fun er H' s hk => krest _ _ ⟨_, .inr ⟨0, x, er, fb0 e, rfl, s, hk, rfl⟩⟩, fun e1 e2 => keep_num T fun er H' s hk => krest _ _ ⟨_, .inr ⟨1, y, er, fb1 e1 e2, rfl, s, hk, rfl⟩⟩, fun i j e1 e2 l1 l2 => ?_⟩
      obtain ⟨f1, f2, f3⟩ := few i j e1 e2 l1 l2
      refine ⟨by omega, by omega, fun e3 => keep_num T fun er H' s hk => krest _ _ ⟨_, .inr ⟨2, z, er, fb2 i j e1 e2 l1 l2 (by omega) e3, rfl, s, hk, rfl⟩⟩, fun e3 e4 => keep_num T fun er H' s hk => krest _ _ ⟨_, .inr ⟨3, u, er, fb3 i j e1 e2 l1 l2 k e3 e4, rfl, s, hk, rfl⟩⟩, fun e3 e4 v H' s => ?_⟩
      exact krest _ _ ⟨_, .inl ⟨fbn i j e1 e2 l1 l2 (.inr ⟨e3, fun _ => e4⟩), s, rfl⟩⟩
    repeat walk_at "s"
    refine if_d (fun k1 => ?_) fun k1 => ?_
    · repeat walk_at "s"
      refine r_callSD ?_
      repeat walk_at "s"
      refine r_ixT (.of ht) (v := x) (by rfl) ?_
      repeat walk_at "s"
      refine r_ixT (.of ht) (v := y) (by rfl) ?_
      repeat walk_at "s"
      refine r_ixT (.of ht) (v := z) (by rfl) ?_
      repeat walk_at "s"
      refine ⟨a, b, c, ha, hb, hc, fun e => keep_num T fun er H' s hk => krest _ _ ⟨_, .inr ⟨0, x, er, fb0 e, rfl, s, hk, rfl⟩⟩, fun e1 e2 => keep_num T fun er H' s hk => krest _ _ ⟨_, .inr ⟨1, y, er, fb1 e1 e2, rfl, s, hk, rfl⟩⟩, fun i j e1 e2 l1 l2 => ?_⟩
      obtain ⟨f1, f2, f3⟩ := few i j e1 e2 l1 l2
      refine ⟨by omega, by omega, f3, fun e3 => keep_num T fun er H' s hk => krest _ _ ⟨_, .inr ⟨2, z, er, fb2 i j e1 e2 l1 l2 (by omega) e3, rfl, s, hk, rfl⟩⟩, fun e3 v H' s => ?_⟩
      exact krest _ _ ⟨_, .inl ⟨fbn i j e1 e2 l1 l2 (.inr ⟨e3, fun z => by omega⟩), s, rfl⟩⟩
    repeat walk_at "s"
    refine if_d (fun k2 => ?_) fun k2 => ?_
    · repeat walk_at "s"
      refine r_callSD ?_
      repeat walk_at "s"
      refine r_ixT (.of ht) (v := x) (by rfl) ?_
      repeat walk_at "s"
      refine r_ixT (.of ht) (v := y) (by rfl) ?_
      repeat walk_at "s"
      refine ⟨a, b, ha, hb, fun e => keep_num T fun er H' s hk => krest _ _ ⟨_, .inr ⟨0, x, er, fb0 e, rfl, s, hk, rfl⟩⟩, fun e1 e2 => keep_num T fun er H' s hk => krest _ _ ⟨_, .inr ⟨1, y, er, fb1 e1 e2, rfl, s, hk, rfl⟩⟩, fun i j e1 e2 l1 l2 => ?_⟩
      obtain ⟨f1, f2, f3⟩ := few i j e1 e2 l1 l2
      refine ⟨by omega, by omega, f3, fun v H' s => ?_⟩
      exact krest _ _ ⟨_, .inl ⟨fbn i j e1 e2 l1 l2 (.inl k2), s, rfl⟩⟩
    repeat walk_at "s"
    refine r_callSD ?_
    repeat walk_at "s"
    refine r_ixT (.of ht) (v := x) (by rfl) ?_
    repeat walk_at "s"
    refine r_ixT (.of ht) (v := y) (by rfl) ?_
    repeat walk_at "s"
    refine r_ixT (.of ht) (v := z) (by rfl) ?_
    repeat walk_at "s"
    refine ⟨a, b, c, some 1, ha, hb, hc, rfl, fun e => keep_num T fun er H' s hk => krest _ _ ⟨_, .inr ⟨0, x, er, fb0 e, rfl, s, hk, rfl⟩⟩, fun e1 e2 => keep_num T fun er H' s hk => krest _ _ ⟨_, .inr ⟨1, y, er, fb1 e1 e2, rfl, s, hk, rfl⟩⟩, fun i j e1 e2 l1 l2 => ?_⟩
    obtain ⟨f1, f2, f3⟩ := few i j e1 e2 l1 l2
    refine ⟨by omega, by omega, fun e3 => keep_num T fun er H' s hk => krest _ _ ⟨_, .inr ⟨2, z, er, fb2 i j e1 e2 l1 l2 k2 e3, rfl, s, hk, rfl⟩⟩, fun e3 e4 => by simp [badC] at e4, fun e3 e4 v H' s => ?_⟩
    exact krest _ _ ⟨_, .inl ⟨fbn i j e1 e2 l1 l2 (.inr ⟨e3, fun z => absurd z k⟩), s, rfl⟩⟩

theorem ok_law_called (T : Txt K mg) : FnOk P w K mg base CX0 5 T.a_law_called T.fd_law_called ["_law_way", "_law_parts"] (sp_law_called T) :=
  T.F_law_called.ok sc_law_called (len_law_called T) fun cdv A outer s H vs Q E hr h => ⟨t_law_called w T, (pss_cons (ps_set (i := 2) sc_law_called.nd rfl (Or.inl rfl) pe_non)
      (pss_cons (ps_tryK rfl rfl sc_law_called.nd rfl rfl ⟨by rfl, by decide, .inl T.m_CellError⟩ rfl takes0 (fun W pn xe tk po => (pss_one (ps_if (pt_cmpR op_eq (pv 0) pe_int (nomark _)) (pss_one (ps_expr (pe_callSD (ok_turned T) (hr.mono (by decide)) (by rfl) T.m_turned T.F_turned.kp (bd_turned_4 T).choose_spec.2 (bd_turned_4 T).choose_spec.1 (fun σ => passAt tk σ) (pa_cons (pe_ix ix_tup (pv 1) pe_int (fun _ _ => rfl)) (pa_cons (pe_ix ix_tup (pv 1) pe_int (fun _ _ => rfl)) (pa_cons (pe_ix ix_tup (pv 1) pe_int (fun _ _ => rfl)) (pa_cons (pe_ix ix_tup (pv 1) pe_int (fun _ _ => rfl)) pa_nil))))))) (pss_one (ps_if (pt_cmpR op_eq (pv 0) pe_int (nomark _)) (pss_one (ps_expr (pe_callSD (ok_ring_length T) (hr.mono (by decide)) (by rfl) T.m_ring_length T.F_ring_length.kp (b_ring_length T) .nil (fun σ => passAt tk σ) (pa_cons (pe_ix ix_tup (pv 1) pe_int (fun _ _ => rfl)) (pa_cons (pe_ix ix_tup (pv 1) pe_int (fun _ _ => rfl)) (pa_cons (pe_ix ix_tup (pv 1) pe_int (fun _ _ => rfl)) pa_nil)))))) (pss_one (ps_if (pt_cmpR op_eq (pv 0) pe_int (nomark _)) (pss_one (ps_expr (pe_callSD (ok_rings T) (hr.mono (by decide)) (by rfl) T.m_rings T.F_rings.kp (b_rings T) .nil (fun σ => passAt tk σ) (pa_cons (pe_ix ix_tup (pv 1) pe_int (fun _ _ => rfl)) (pa_cons (pe_ix ix_tup (pv 1) pe_int (fun _ _ => rfl)) pa_nil))))) (pss_one (ps_expr (pe_callSD (ok_turned T) (hr.mono (by decide)) (by rfl) T.m_turned T.F_turned.kp (bd_turned_3 T).choose_spec.2 (bd_turned_3 T).choose_spec.1 (fun σ => passAt tk σ) (pa_cons (pe_ix ix_tup (pv 1) pe_int (fun _ _ => rfl)) (pa_cons (pe_ix ix_tup (pv 1) pe_int (fun _ _ => rfl)) (pa_cons (pe_ix ix_tup (pv 1) pe_int (fun _ _ => rfl)) pa_nil))))))))))))) (fun a oe cls d pn hz hf => (pss_one (ps_set (i := 2) sc_law_called.nd rfl (Or.inl rfl) (pv 3)))))
      (pss_one (ps_ret (pe_ifExp (pt_val (pe_callB call_isi2 (by rfl) T.n_isinstance (by decide +kernel) (pa_cons (pv 2) (pa_cons (pe_glob (v := .ref T.a_InvalidNumber) (by rfl) T.m_InvalidNumber rfl) pa_nil)))) (pe_lst (pa_cons pe_str (pa_cons (pe_errF (pv 2)) pa_nil))) (pv 2)))))), rd_law_called T vs H Q E h⟩
end
end CP

namespace CP
open PySem L2
section
variable {P : Program} {w : World} {K : PySem.W.Frag} {mg : Str → Option Value} {base : Heap}
/-- an odd argument: data that repr shows, not a list or a list -/
def Odd (K : PySem.W.Frag) (H : Hp) (v : V) : Prop := ThingT K H v ∨ ThingL K H v
theorem ThingT.mono {K : PySem.W.Frag} {H H' : Hp} {v : V} (s : Same H H') (h : ThingT K H v) : ThingT K H' v := by
  obtain ⟨d, n, h1, h2, h3⟩ := h
  exact ⟨d, n, h1, h2, fun H2 s2 => h3 H2 (s.trans s2)⟩
theorem ThingL.mono {K : PySem.W.Frag} {H H' : Hp} {v : V} (s : Same H H') (h : ThingL K H v) : ThingL K H' v := by
  obtain ⟨a, xs, ds, h1, h2, h3, h4, h5, h6⟩ := h
  exact ⟨a, xs, ds, h1, CP.Same.to s h2, h3, h4, h5, fun H2 k => h6 H2 fun b o nb e => k b o nb (CP.Same.to s e)⟩
theorem Odd.mono {K : PySem.W.Frag} {H H' : Hp} {v : V} (s : Same H H') (h : Odd K H v) : Odd K H' v := h.imp (ThingT.mono s) (ThingL.mono s)
theorem shown_small {d : PyData} (h : ShwW d) : d.showable = true ∧ d.depth ≤ 60 ∧ d.shown.length ≤ sizeLine := by
  refine ⟨h.show_, Nat.le_trans h.flat (by decide), ?_⟩
  have := PyData.shown_le 40 (by decide) d h.short
  have w := h.light
  have sz : sizeLine = 16777216 := rfl
  omega
theorem odd_data {K : PySem.W.Frag} {H : Hp} {v : V} (h : Odd K H v) : ∃ d, ShwW d ∧ ∀ H', Same H H' → ((Dp K H' v d ∧ d.hasDict = false) ∨ DpD H' v d) := by
  rcases h with ⟨d, n, sd, _, z⟩ | ⟨a0, xs, ds, rfl, h0, _, sd, nd, z⟩
  · exact ⟨d, sd.w, fun H' s => (z H' s).2⟩
  · exact ⟨.list ds, sd.w, fun H' s => .inl ⟨.lst (.of (CP.Same.to s h0)) (z H' fun b o _ e => s _ _ e), by simp only [PyData.hasDict]; exact nd⟩⟩
def sp_law_is (_ : Txt K mg) : Sp := fun vs H Q _ => match vs with
  | [.ref l, v] => ∃ s, H l = some (.lst [.str s, v]) ∧ Odd K H v ∧ .ref l ≠ v ∧ ∀ H', Same H H' → Q (.bl true) H'
  | _ => False
def t_law_is (w : World) (T : Txt K mg) : TS := tSeq (tIfS (tOr (tNot (tB (tCB (rIsi K) (tCons (tVar 0) (tCons (tC (.ty "list")) (tNil)))))) (tTest (tOp (rNeX K) (tCB (rReprA K) (tCons (tOp (rIxL K) (tVar 0) (tC (.int 1))) (tNil))) (tCB (rReprA K) (tCons (tVar 1) (tNil)))))) (tRet (tC (.bl false))) (tNext)) (tSeq (tIfS (tB (tCB (rIsi K) (tCons (tVar 1) (tCons (tC (.ty "list")) (tNil))))) (tSeq (tDrop (tBM K "list" rAppend (tVar 1) (tCons (tC (.str "later")) (tNil)))) (tSeq (tAsg (tOp (rEqX K) (tCB (rReprA K) (tCons (tOp (rIxL K) (tVar 0) (tC (.int 1))) (tNil))) (tCB (rReprA K) (tCons (tVar 1) (tNil)))) (gName 2)) (tSeq (tDrop (tBM0 K "list" rPop (tVar 1))) (tRet (tVar 2))))) (tNext)) (tRet (tC (.bl true))))
theorem len_law_is (T : Txt K mg) : ∀ (vs : List V) (H : Hp) (Q : VK) (E : XK), sp_law_is T vs H Q E → vs.length = (["_law_found", "_law_value"] : List Str).length := by
  intro vs H Q E h
  unfold sp_law_is at h
  split at h
  all_goals first | rfl | exact h.elim
theorem rd_law_is (T : Txt K mg) (vs : List V) (H : Hp) (Q : VK) (E : XK) (h : sp_law_is T vs H Q E) : t_law_is w T { nx := fun _ H' => Q .non H', rt := Q } (start ["_law_found", "_law_value", "_law_right"] vs) H := by
  match vs, h with
  | [.ref l, v], h =>
  obtain ⟨z, hl, od, ne, q⟩ := h
  obtain ⟨d, sd, hd⟩ := odd_data od
  obtain ⟨r1, r2, r3⟩ := shown_small sd
  have sz : sizeLine = 16777216 := rfl
  unfold t_law_is
  walk_at "st"
  repeat walk_at "w"
  refine r_isi (n := "list") (tk_lst hl) (by decide) ?_
  rw [show ("list" == "list" || ("list" == "bool" && "list" == "int")) = true by decide]
  repeat walk_at "w"
  refine r_ixL (i := 1) (.of hl) (v := v) (by rfl) ?_
  repeat walk_at "w"
  refine ⟨v, d, rfl, hd _ (Same.refl _), r1, r2, r3, ?_⟩
  repeat walk_at "w"
  refine ⟨v, d, rfl, hd _ (Same.refl _), r1, r2, r3, ?_⟩
  repeat walk_at "w"
  refine if_nd (fun z => absurd rfl z) fun _ => ?_
  repeat walk_at "w"
  rcases od with ⟨dd, n, _, hn, zz⟩ | ⟨a0, xs, ds, rfl, h0, hx, sx, nd, zz⟩
  · refine r_isi (n := n) (zz _ (Same.refl _)).1 (by decide) ?_
    have nl : (n == "list" || (n == "bool" && "list" == "int")) = false := by
      simp only [List.mem_cons, List.not_mem_nil, or_false] at hn
      rcases hn with rfl | rfl | rfl | rfl | rfl | rfl <;> decide
    rw [nl]
    repeat walk_at "w"
    exact q _ (Same.refl _)
  · refine r_isi (tk_lst h0) (by decide) ?_
    rw [show ("list" == "list" || ("list" == "bool" && "list" == "int")) = true by decide]
    repeat walk_at "w"
    refine ⟨.inl ⟨rfl, _, .of h0⟩, ?_⟩
    repeat walk_at "w"
    refine r_app h0 (by omega) fun G9 b9 h9 => ?_
    have nl : l ≠ a0 := fun e => ne (by rw [e])
    have hl9 := SB.to b9 nl hl
    have sl := sx.later
    have dd9 : Dp K G9 (.ref a0) (.list (ds ++ [.str "later"])) := .lst (.of h9) (DpA_app (zz G9 fun b o nb e => b9 _ _ nb e) (.cons (.str _) .nil))
    have nd9 : (PyData.list (ds ++ [.str "later"])).hasDict = false := by
      simp only [PyData.hasDict]
      rw [dictA_app, nd]
      rfl
    obtain ⟨r4, r5, r6⟩ := shown_small sl
    repeat walk_at "w"
    refine r_ixL (i := 1) (.of hl9) (v := .ref a0) (by rfl) ?_
    repeat walk_at "w"
    refine ⟨_, _, rfl, .inl ⟨dd9, nd9⟩, r4, r5, r6, ?_⟩
    repeat walk_at "w"
    refine ⟨_, _, rfl, .inl ⟨dd9, nd9⟩, r4, r5, r6, ?_⟩
    repeat walk_at "w"
    refine ⟨.inl ⟨rfl, _, .of h9⟩, ?_⟩
    repeat walk_at "w"
    refine ⟨a0, _, .str "later", rfl, rfl, h9, by simp, ?_⟩
    repeat walk_at "w"
    rw [decide_eq_true rfl]
    refine q _ fun b o e => ?_
    by_cases hb : b = a0
    · subst hb
      rw [upd_same]
      rw [h0] at e
      rw [← e]
      simp
    · rw [upd_ne hb]
      exact b9 _ _ hb e

theorem ok_law_is (T : Txt K mg) : FnG P w K mg base CX0 1 T.a_law_is T.fd_law_is ["_law_found", "_law_value"] (sp_law_is T) :=
  Fun.okG T.F_law_is sc_law_is (len_law_is T) fun cdv A outer s H vs Q E gd hr h => ⟨t_law_is w T, PSs.nox (pss_cons (ps_if (PW.pt (pw_or (pt_not (pt_val (pe_callB call_isi (by rfl) T.n_isinstance (by decide +kernel) (pa_cons (pv 0) (pa_cons (pe_bltn (v := .ty "list") (by rfl) T.n_list (by decide +kernel) rfl) pa_nil))))) (pw_or1 (pt_cmpR (op_neX hr.units) (pe_callB (call_reprA gd hr.units) (by rfl) T.n_repr (by decide +kernel) (pa_cons (pe_ix ix_list (pv 0) pe_int (fun _ _ => rfl)) pa_nil)) (pe_callB (call_reprA gd hr.units) (by rfl) T.n_repr (by decide +kernel) (pa_cons (pv 1) pa_nil)) (nomark _))))) (pss_one (ps_ret pe_bl)) pss_nil)
      (pss_cons (ps_if (pt_val (pe_callB call_isi (by rfl) T.n_isinstance (by decide +kernel) (pa_cons (pv 1) (pa_cons (pe_bltn (v := .ty "list") (by rfl) T.n_list (by decide +kernel) rfl) pa_nil)))) (pss_cons (ps_expr (pe_bm PySem.F.plainAttrs_list PySem.F.slot_list_append PySem.F.type_list_append mt_append (pv 1) (pa_cons pe_str pa_nil)))
      (pss_cons (ps_set (i := 2) sc_law_is.nd rfl (Or.inl rfl) (pe_cmpR (op_eqX hr.units) (pe_callB (call_reprA gd hr.units) (by rfl) T.n_repr (by decide +kernel) (pa_cons (pe_ix ix_list (pv 0) pe_int (fun _ _ => rfl)) pa_nil)) (pe_callB (call_reprA gd hr.units) (by rfl) T.n_repr (by decide +kernel) (pa_cons (pv 1) pa_nil)) (nomark _)))
      (pss_cons (ps_expr (pe_bm0 PySem.F.plainAttrs_list PySem.F.slot_list_pop PySem.F.type_list_pop mt_pop (pv 1)))
      (pss_one (ps_ret (pv 2)))))) pss_nil)
      (pss_one (ps_ret pe_bl)))), rd_law_is T vs H Q E h⟩
end
end CP

namespace CP
open PySem L2
section
variable {P : Program} {w : World} {K : PySem.W.Frag} {mg : Str → Option Value} {base : Heap}
/-- an odd argument: no row, and no place nor count where it is not 0 -/
structure OddV (K : PySem.W.Frag) (H : Hp) (v : V) (a : Option Int) : Prop where
  odd : Odd K H v
  arg : ArgV K H v a
  row : badR a = true
  kd : Kd H v
  pl : is0 v = false → (∀ m, badP m a = true) ∧ badC a = true
theorem Kd.mono {H H' : Hp} {x : V} (h : Kd H x) (s : Same H H') : Kd H' x := by
  rcases h with h | ⟨a, e, h⟩
  · exact .inl h
  · exact .inr ⟨a, e, h.imp (fun ⟨xs, z⟩ => ⟨xs, s _ _ z⟩) fun h => h.imp (fun ⟨xs, z⟩ => ⟨xs, s _ _ z⟩) fun ⟨xs, z⟩ => ⟨xs, s _ _ z⟩⟩
theorem OddV.mono {K : PySem.W.Frag} {H H' : Hp} {v : V} {a : Option Int} (h : OddV K H v a) (s : Same H H') : OddV K H' v a := ⟨h.odd.mono s, h.arg.mono s, h.row, h.kd.mono s, h.pl⟩
theorem fb_row {w : Int} {a b c d : Option Int} (h : badR a = true) : firstBad w a b c d = some 0 := by unfold firstBad; rw [if_pos h]
theorem fb_col {w i : Int} {b c d : Option Int} (h0 : 1 ≤ i) (h : badR b = true) : firstBad w (some i) b c d = some 1 := by unfold firstBad; rw [if_neg (by simp [badR]; omega), if_pos h]
theorem fb_place {w i j : Int} {c d : Option Int} (h0 : 1 ≤ i) (h1 : 1 ≤ j) (hw : w ≠ 2) (h : badP (i * j) c = true) : firstBad w (some i) (some j) c d = some 2 := by
  unfold firstBad
  rw [if_neg (by simp [badR]; omega), if_neg (by simp [badR]; omega), if_neg hw, if_pos (show badP ((some i).getD 0 * (some j).getD 0) c = true from h)]
theorem fb_count {w i j : Int} {c d : Option Int} (h0 : 1 ≤ i) (h1 : 1 ≤ j) (hw : w = 0) (h : badP (i * j) c = false) (h2 : badC d = true) : firstBad w (some i) (some j) c d = some 3 := by
  unfold firstBad
  rw [if_neg (by simp [badR]; omega), if_neg (by simp [badR]; omega), if_neg (by omega), if_neg (by simp [Option.getD, h]), if_pos ⟨hw, h2⟩]
theorem fb_none {w i j : Int} {c d : Option Int} (h0 : 1 ≤ i) (h1 : 1 ≤ j) (hw : w = 2 ∨ (badP (i * j) c = false ∧ (w = 0 → badC d = false))) : firstBad w (some i) (some j) c d = none := by
  unfold firstBad
  rw [if_neg (by simp [badR]; omega), if_neg (by simp [badR]; omega)]
  rcases hw with hw | ⟨w1, w2⟩
  · rw [if_pos hw]
  · by_cases z : w = 2
    · rw [if_pos z]
    · rw [if_neg z, if_neg (by simp [Option.getD, w1]), if_neg (fun y => by have := w2 y.1; rw [this] at y; cases y.2)]
theorem area {i j : Int} (h0 : 1 ≤ i) (h1 : i ≤ 30000) (g0 : 1 ≤ j) (g1 : j ≤ 30000) : 1 ≤ i * j ∧ i * j ≤ 900000000 := by
  have a : (1 : Int) * 1 ≤ i * j := Int.mul_le_mul h0 g0 (by decide) (by omega)
  have b : i * j ≤ 30000 * 30000 := Int.mul_le_mul h1 g1 (by omega) (by decide)
  omega
/-- a list of ["number", i] -/
def Nums (H : Hp) (p : Addr) (is : List Int) : Prop := ∃ ls : List Addr, H p = some (.lst (ls.map V.ref)) ∧ Paired (fun l (i : Int) => H l = some (.lst [.str "number", .int i])) ls is
def numD (i : Int) : PyData := .list [.str "number", .int i]
theorem nums_dp {K : PySem.W.Frag} {H : Hp} {p : Addr} {is : List Int} (h : Nums H p is) : Dp K H (.ref p) (.list (is.map numD)) := by
  obtain ⟨ls, e, h⟩ := h
  refine .lst (.of e) ?_
  clear e
  induction h with
  | nil => exact .nil
  | cons h _ ih => exact .cons (.lst (.of h) (.cons (.str _) (.cons (.int _) .nil))) ih
theorem nums_ne {K : PySem.W.Frag} {H : Hp} {Q : VK} {p b : Addr} {is : List Int} (h : Nums H p is) (g : Nums H b is) (sh : SeqAt.shaped (.list (is.map numD)) = true) (q : Q (.bl false) H) : rNeX K (.ref p) (.ref b) H Q := by
  refine .inr (.inl ⟨_, _, nums_dp h, nums_dp g, sh, sh, ?_⟩)
  rw [SeqAt.eqv_refl _ (SeqAt.canLay_of_shaped sh)]
  exact q
def sp_law_firsts_right (_ : Txt K mg) : Sp := fun vs H Q _ => match vs with
  | [.ref p, v, .int hi, .int wi, .int sp] => ∃ x y z a, Purse H p x y z ∧ z < 2 ^ 57 ∧ OddV K (hid2 p p H) v a ∧ 1 ≤ hi ∧ hi ≤ 30000 ∧ 1 ≤ wi ∧ wi ≤ 30000 ∧ 0 ≤ sp ∧ sp < hi * wi ∧ ∀ H' x' z', SB p H H' → Purse H' p x' y z' → z' ≤ z + 60 → Q (.bl true) H'
  | _ => False
def t_law_firsts_right (w : World) (T : Txt K mg) : TS := tSeq (tAsg (tOp (rIxL K) (tLst (tCons (tC (.str "second")) (tCons (tLst (tCons (tC (.int 7)) (tNil))) (tCons (tUn oNeg (tC (.int 9))) (tNil))))) (tCall (sp_law_draw T) [] E0 (tCons (tVar 0) (tCons (tC (.int 3)) (tNil))))) (gName 5)) (tSeq (tFor (iRng1 (tCons (tC (.int 4)) (tNil))) (gName 6) (tIfS (tNot (tB (tCall (sp_law_is T) [] E0 (tCons (tCall (sp_law_called T) [] E0 (tCons (tVar 6) (tCons (tTup (tCons (tVar 1) (tCons (tVar 5) (tCons (tUn oNeg (tC (.int 5))) (tCons (tUn oNeg (tC (.int 6))) (tNil)))))) (tNil)))) (tCons (tVar 1) (tNil)))))) (tRet (tC (.bl false))) (tNext))) (tSeq (tAsg (tLst (tCons (tCall (sp_law_called T) [] E0 (tCons (tC (.int 0)) (tCons (tTup (tCons (tC (.int 0)) (tCons (tUn oNeg (tC (.int 1))) (tCons (tUn oNeg (tC (.int 2))) (tCons (tUn oNeg (tC (.int 3))) (tNil)))))) (tNil)))) (tCons (tCall (sp_law_called T) [] E0 (tCons (tC (.int 1)) (tCons (tTup (tCons (tVar 2) (tCons (tC (.int 0)) (tCons (tUn oNeg (tC (.int 1))) (tCons (tUn oNeg (tC (.int 1))) (tNil)))))) (tNil)))) (tNil)))) (gName 7)) (tSeq (tDrop (tBM K "list" rAppend (tVar 7) (tCons (tCall (sp_law_called T) [] E0 (tCons (tC (.int 2)) (tCons (tTup (tCons (tVar 2) (tCons (tUn oNeg (tC (.int 4))) (tCons (tC (.int 0)) (tCons (tC (.int 0)) (tNil)))))) (tNil)))) (tNil)))) (tSeq (tAsg (tOp rCat (tVar 7) (tLst (tCons (tCall (sp_law_called T) [] E0 (tCons (tC (.int 0)) (tCons (tTup (tCons (tVar 2) (tCons (tVar 3) (tCons (tUn oNeg (tC (.int 1))) (tCons (tUn oNeg (tC (.int 2))) (tNil)))))) (tNil)))) (tCons (tCall (sp_law_called T) [] E0 (tCons (tC (.int 0)) (tCons (tTup (tCons (tVar 2) (tCons (tVar 3) (tCons (tVar 4) (tCons (tUn oNeg (tC (.int 3))) (tNil)))))) (tNil)))) (tNil))))) (gName 7)) (tSeq (tIfS (tTest (tOp (rNeX K) (tVar 7) (tLst (tCons (tLst (tCons (tC (.str "number")) (tCons (tC (.int 0)) (tNil)))) (tCons (tLst (tCons (tC (.str "number")) (tCons (tC (.int 0)) (tNil)))) (tCons (tLst (tCons (tC (.str "number")) (tCons (tUn oNeg (tC (.int 4))) (tNil)))) (tCons (tLst (tCons (tC (.str "number")) (tCons (tUn oNeg (tC (.int 1))) (tNil)))) (tCons (tLst (tCons (tC (.str "number")) (tCons (tUn oNeg (tC (.int 3))) (tNil)))) (tNil))))))))) (tRet (tC (.bl false))) (tNext)) (tRet (tC (.bl true))))))))
theorem len_law_firsts_right (T : Txt K mg) : ∀ (vs : List V) (H : Hp) (Q : VK) (E : XK), sp_law_firsts_right T vs H Q E → vs.length = (["_law_purse_here", "_law_odd", "_law_high", "_law_wide", "_law_spot"] : List Str).length := by
  intro vs H Q E h
  unfold sp_law_firsts_right at h
  split at h
  all_goals first | rfl | exact h.elim
theorem rd_law_firsts_right (T : Txt K mg) (vs : List V) (H : Hp) (Q : VK) (E : XK) (h : sp_law_firsts_right T vs H Q E) : t_law_firsts_right w T { nx := fun _ H' => Q .non H', rt := Q } (start ["_law_purse_here", "_law_odd", "_law_high", "_law_wide", "_law_spot", "_law_second", "_law_way", "_law_first"] vs) H := by
  match vs, h with
  | [.ref p, v, .int hi, .int wi, .int sp], h =>
  obtain ⟨x, y, z, a, hp, hz, od, hi0, hi1, wi0, wi1, sp0, sp1, q⟩ := h
  have sz : sizeLine = 16777216 := rfl
  obtain ⟨ar0, ar1⟩ := area hi0 hi1 wi0 wi1
  unfold t_law_firsts_right
  walk_at "st"
  repeat walk_at "w"
  rename_i l7 H1 n1 s1 h7 l8 H2 n2 s2 h8
  refine ⟨x, y, z, hp.mono (s1.trans s2), by omega, by decide, by decide, fun dr H3 x3 z3 d0 d1 b3 hp3 hz3 => ?_⟩
  have p7 : l7 ≠ p := fun e => by subst e; rw [hp.1] at n1; cases n1
  have p8 : l8 ≠ p := fun e => by subst e; rw [s1 _ _ hp.1] at n2; cases n2
  have h8' := b3 _ _ p8 h8
  have h7' := b3 _ _ p7 (CP.Same.to s2 h7)
  have S3 : SB p H H3 := fun b o ne e => b3 b o ne ((s1.trans s2) b o e)
  have sec : ∃ w b, [V.str "second", .ref l7, .int (-9)][dr.toNat]? = some w ∧ ArgV K H3 w b := by
    have : dr.toNat < 3 := by omega
    match hd : dr.toNat, this with
    | 0, _ => exact ⟨_, none, rfl, (fun i e => by cases e), "str", by decide, fun _ _ => tk_str⟩
    | 1, _ => exact ⟨_, none, rfl, (fun i e => by cases e), "list", by decide, fun _ s => tk_lst (CP.Same.to s h7')⟩
    | 2, _ => exact ⟨_, some (-9), rfl, rfl⟩
  obtain ⟨w, bw, hw, aw⟩ := sec
  have edr : dr = (dr.toNat : Int) := by omega
  rw [edr]
  refine r_ixL (.of h8') (v := w) (atI_nat hw) ?_
  have od3 : OddV K H3 v a := (od.mono (hid2_p (q := p) S3)).mono hid2_same
  clear h8' h7' s1 s2 h7 h8
  repeat walk_at "w"
  refine for_range (fun i σ H' => Same H3 H' ∧ ∃ w1 w2, σ = [some (.ref p), some v, some (.int hi), some (.int wi), some (.int sp), some w, w1, w2]) ⟨Same.refl _, _, _, rfl⟩ ?_ ?_
  · rintro i σ H4 i4 ⟨s4, w1, w2, rfl⟩
    have i4' : i < 4 := i4
    repeat walk_at "w"
    rename_i t H5 n5 s5 h5
    have s45 := s4.trans s5
    refine ⟨v, w, .int (-5), .int (-6), a, bw, some (-5), some (-6), h5, od3.arg.mono s45, aw.mono s45, rfl, rfl, by omega, by omega, fun i j e1 e2 l1 l2 => ?_, ?_⟩
    · have := od3.row
      subst e1
      simp [badR] at this
      omega
    rw [fb_row od3.row]
    refine ⟨v, rfl, fun l H6 n6 s6 h6 => ?_⟩
    have s46 := s45.trans s6
    repeat walk_at "w"
    refine ⟨"number", h6, od3.odd.mono s46, fun e => ?_, fun H7 s7 => ?_⟩
    · subst e
      rcases od3.odd.mono s45 with ⟨d, n, _, hn, zz⟩ | ⟨a0, xs, ds, e, h0, _⟩
      · rcases (od3.kd.mono s45) with f | ⟨b, e, k⟩
        · cases f
        · cases e
          rcases k with ⟨_, k⟩ | ⟨_, k⟩ | ⟨_, k⟩ <;> (rw [n6] at k; cases k)
      · cases e
        rw [n6] at h0
        cases h0
    · repeat walk_at "w"
      exact ⟨s46.trans s7, _, _, rfl⟩
  · rintro σ H4 ⟨s4, w1, w2, rfl⟩
    repeat walk_at "w"
    rename_i t1 H5 n5 s5 h5
    refine ⟨.int 0, .int (-1), .int (-2), .int (-3), some 0, some (-1), some (-2), some (-3), h5, rfl, rfl, rfl, rfl, by omega, by omega, fun i j e1 e2 l1 l2 => by cases e1; omega, ?_⟩
    rw [fb_row rfl]
    refine ⟨.int 0, rfl, fun m1 H6 n6 s6 h6 => ?_⟩
    repeat walk_at "w"
    rename_i t2 H7 n7 s7 h7
    refine ⟨.int hi, .int 0, .int (-1), .int (-1), some hi, some 0, some (-1), some (-1), h7, rfl, rfl, rfl, rfl, by omega, by omega, fun i j e1 e2 l1 l2 => by cases e2; omega, ?_⟩
    rw [fb_col hi0 rfl]
    refine ⟨.int 0, rfl, fun m2 H8 n8 s8 h8 => ?_⟩
    repeat walk_at "w"
    rename_i l9 H9 n9 s9 h9
    refine ⟨.inl ⟨rfl, _, .of h9⟩, ?_⟩
    repeat walk_at "w"
    rename_i t3 Ha na sa ha
    refine ⟨.int hi, .int (-4), .int 0, .int 0, some hi, some (-4), some 0, some 0, ha, rfl, rfl, rfl, rfl, by omega, by omega, fun i j e1 e2 l1 l2 => by cases e2; omega, ?_⟩
    rw [fb_col hi0 rfl]
    refine ⟨.int (-4), rfl, fun m3 Hb nb sb hb => ?_⟩
    repeat walk_at "w"
    have h9b := CP.Same.to (sa.trans sb) h9
    refine r_app h9b (by simp; omega) fun Hc bc hc => ?_
    have m19 : m1 ≠ l9 := ne_of_none (CP.Same.to (s7.trans s8) h6) n9
    have m29 : m2 ≠ l9 := ne_of_none h8 n9
    have m39 : m3 ≠ l9 := (ne_of_none (CP.Same.to sa h9) nb).symm
    have e1 := SB.to bc m19 (CP.Same.to (((s7.trans s8).trans s9).trans (sa.trans sb)) h6)
    have e2 := SB.to bc m29 (CP.Same.to (s9.trans (sa.trans sb)) h8)
    have e3 := SB.to bc m39 hb
    have S8 := (((s4.trans s5).trans s6).trans s7).trans s8
    have Sc : Same H3 Hc := CP.Same.sb (S8.trans (s9.trans (sa.trans sb))) (S8.free n9) bc
    simp only [List.cons_append, List.nil_append] at hc
    clear s5 s6 s7 s8 s9 sa sb n5 n6 n7 n8 n9 na nb h5 h7 ha h6 h8 hb h9 h9b bc S8 s4
    repeat walk_at "w"
    rename_i t4 Hd nd sd hd
    refine ⟨.int hi, .int wi, .int (-1), .int (-2), some hi, some wi, some (-1), some (-2), hd, rfl, rfl, rfl, rfl, by omega, by omega, fun i j e1 e2 l1 l2 => by cases e1; cases e2; omega, ?_⟩
    rw [fb_place hi0 wi0 (by omega) (by simp [badP])]
    refine ⟨.int (-1), rfl, fun m4 He ne se he => ?_⟩
    repeat walk_at "w"
    rename_i t5 Hf nf sf hf
    refine ⟨.int hi, .int wi, .int sp, .int (-3), some hi, some wi, some sp, some (-3), hf, rfl, rfl, rfl, rfl, by omega, by omega, fun i j e1 e2 l1 l2 => by cases e1; cases e2; omega, ?_⟩
    rw [fb_count hi0 wi0 rfl (by simp [badP]; omega) (by simp [badC])]
    refine ⟨.int (-3), rfl, fun m5 Hg ng sg hg => ?_⟩
    repeat walk_at "w"
    rename_i lx Hx nx sx hx ly Hy ny sy hy c1 Hc1 nc1 sc1 hc1 c2 Hc2 nc2 sc2 hc2 c3 Hc3 nc3 sc3 hc3 c4 Hc4 nc4 sc4 hc4 c5 Hc5 nc5 sc5 hc5 lz Hz nz sz2 hz2
    have S5 := (((sc1.trans sc2).trans sc3).trans sc4).trans (sc5.trans sz2)
    have Y := sx.trans (sy.trans S5)
    have X := ((sd.trans se).trans (sf.trans sg)).trans Y
    refine nums_ne (is := [0, 0, -4, -1, -3]) ⟨[m1, m2, m3, m4, m5], CP.Same.to S5 hy, .cons (CP.Same.to X e1) (.cons (CP.Same.to X e2) (.cons (CP.Same.to X e3) (.cons (CP.Same.to ((sf.trans sg).trans Y) he) (.cons (CP.Same.to Y hg) .nil))))⟩
      ⟨[c1, c2, c3, c4, c5], hz2, .cons (CP.Same.to (((sc2.trans sc3).trans sc4).trans (sc5.trans sz2)) hc1) (.cons (CP.Same.to ((sc3.trans sc4).trans (sc5.trans sz2)) hc2) (.cons (CP.Same.to (sc4.trans (sc5.trans sz2)) hc3) (.cons (CP.Same.to (sc5.trans sz2) hc4) (.cons (CP.Same.to sz2 hc5) .nil))))⟩ (by decide +kernel) ?_
    repeat walk_at "w"
    have F := Sc.trans X
    refine q _ x3 z3 (fun b o ne e => F _ _ (S3 b o ne e)) (hp3.mono F) hz3

theorem ok_law_firsts_right (T : Txt K mg) : FnG P w K mg base CX0 6 T.a_law_firsts_right T.fd_law_firsts_right ["_law_purse_here", "_law_odd", "_law_high", "_law_wide", "_law_spot"] (sp_law_firsts_right T) :=
  Fun.okG T.F_law_firsts_right sc_law_firsts_right (len_law_firsts_right T) fun cdv A outer s H vs Q E gd hr h => ⟨t_law_firsts_right w T, PSs.nox (pss_cons (ps_set (i := 5) sc_law_firsts_right.nd rfl (Or.inl rfl) (pe_ix ix_list (pe_lst (pa_cons pe_str (pa_cons (pe_lst (pa_cons pe_int pa_nil)) (pa_cons (pe_un un_neg pe_int) pa_nil)))) (pe_call (ok_law_draw T) (hr.mono (by decide)) (by rfl) T.m__law_draw T.F_law_draw.kp (b_law_draw T) .nil pass0 (pa_cons (pv 0) (pa_cons pe_int pa_nil))) (fun _ _ => rfl)))
      (pss_cons (ps_for PassesOwn.never rfl (pi_range1 (by rfl) T.n_range (pa_cons pe_int pa_nil)) (pg_name (i := 6) sc_law_firsts_right.nd rfl (Or.inl rfl)) (pss_one (ps_if (pt_not (pt_val (pe_callG (ok_law_is T) gd (hr.mono (by decide)) (by rfl) T.m__law_is T.F_law_is.kp (b_law_is T) .nil pass0 (pa_cons (pe_call (ok_law_called T) (hr.mono (by decide)) (by rfl) T.m__law_called T.F_law_called.kp (b_law_called T) .nil pass0 (pa_cons (pv 6) (pa_cons (pe_tup (pa_cons (pv 1) (pa_cons (pv 5) (pa_cons (pe_un un_neg pe_int) (pa_cons (pe_un un_neg pe_int) pa_nil))))) pa_nil))) (pa_cons (pv 1) pa_nil))))) (pss_one (ps_ret pe_bl)) pss_nil)))
      (pss_cons (ps_set (i := 7) sc_law_firsts_right.nd rfl (Or.inl rfl) (pe_lst (pa_cons (pe_call (ok_law_called T) (hr.mono (by decide)) (by rfl) T.m__law_called T.F_law_called.kp (b_law_called T) .nil pass0 (pa_cons pe_int (pa_cons (pe_tup (pa_cons pe_int (pa_cons (pe_un un_neg pe_int) (pa_cons (pe_un un_neg pe_int) (pa_cons (pe_un un_neg pe_int) pa_nil))))) pa_nil))) (pa_cons (pe_call (ok_law_called T) (hr.mono (by decide)) (by rfl) T.m__law_called T.F_law_called.kp (b_law_called T) .nil pass0 (pa_cons pe_int (pa_cons (pe_tup (pa_cons (pv 2) (pa_cons pe_int (pa_cons (pe_un un_neg pe_int) (pa_cons (pe_un un_neg pe_int) pa_nil))))) pa_nil))) pa_nil))))
      (pss_cons (ps_expr (pe_bm PySem.F.plainAttrs_list PySem.F.slot_list_append PySem.F.type_list_append mt_append (pv 7) (pa_cons (pe_call (ok_law_called T) (hr.mono (by decide)) (by rfl) T.m__law_called T.F_law_called.kp (b_law_called T) .nil pass0 (pa_cons pe_int (pa_cons (pe_tup (pa_cons (pv 2) (pa_cons (pe_un un_neg pe_int) (pa_cons pe_int (pa_cons pe_int pa_nil))))) pa_nil))) pa_nil)))
      (pss_cons (ps_set (i := 7) sc_law_firsts_right.nd rfl (Or.inl rfl) (pe_op op_cat (pv 7) (pe_lst (pa_cons (pe_call (ok_law_called T) (hr.mono (by decide)) (by rfl) T.m__law_called T.F_law_called.kp (b_law_called T) .nil pass0 (pa_cons pe_int (pa_cons (pe_tup (pa_cons (pv 2) (pa_cons (pv 3) (pa_cons (pe_un un_neg pe_int) (pa_cons (pe_un un_neg pe_int) pa_nil))))) pa_nil))) (pa_cons (pe_call (ok_law_called T) (hr.mono (by decide)) (by rfl) T.m__law_called T.F_law_called.kp (b_law_called T) .nil pass0 (pa_cons pe_int (pa_cons (pe_tup (pa_cons (pv 2) (pa_cons (pv 3) (pa_cons (pv 4) (pa_cons (pe_un un_neg pe_int) pa_nil))))) pa_nil))) pa_nil)))))
      (pss_cons (ps_if (pt_cmpR (op_neX hr.units) (pv 7) (pe_lst (pa_cons (pe_lst (pa_cons pe_str (pa_cons pe_int pa_nil))) (pa_cons (pe_lst (pa_cons pe_str (pa_cons pe_int pa_nil))) (pa_cons (pe_lst (pa_cons pe_str (pa_cons (pe_un un_neg pe_int) pa_nil))) (pa_cons (pe_lst (pa_cons pe_str (pa_cons (pe_un un_neg pe_int) pa_nil))) (pa_cons (pe_lst (pa_cons pe_str (pa_cons (pe_un un_neg pe_int) pa_nil))) pa_nil)))))) (nomark _)) (pss_one (ps_ret pe_bl)) pss_nil)
      (pss_one (ps_ret pe_bl)))))))), rd_law_firsts_right T vs H Q E h⟩
end
end CP

namespace CP
open PySem L2
section
variable {P : Program} {w : World} {K : PySem.W.Frag} {mg : Str → Option Value} {base : Heap}
theorem odd_int {K : PySem.W.Frag} {H : Hp} {i : Int} (h : i.natAbs < 10 ^ 30) (h0 : i < 1) : OddV K H (.int i) (some i) :=
  ⟨.inl ⟨.int i, "int", (shw_int h).1, by decide, fun _ _ => ⟨tk_int, .inl ⟨.int i, rfl⟩⟩⟩, rfl, by simp [badR]; omega, .inl rfl, fun z => by
    have : i ≠ 0 := by simpa [is0] using z
    exact ⟨fun m => by simp [badP]; omega, by simp [badC]; omega⟩⟩
theorem odd_non {K : PySem.W.Frag} {H : Hp} : OddV K H .non none :=
  ⟨.inl ⟨.none, "NoneType", ⟨rfl, by decide, rfl, by decide⟩, by decide, fun _ _ => ⟨tk_non, .inl ⟨.non, rfl⟩⟩⟩, ⟨(fun i e => by cases e), "NoneType", by decide, fun _ _ => tk_non⟩, rfl, .inl rfl, fun _ => ⟨fun _ => rfl, rfl⟩⟩
theorem odd_bl {K : PySem.W.Frag} {H : Hp} (b : Bool) : OddV K H (.bl b) none :=
  ⟨.inl ⟨.bool b, "bool", ⟨rfl, by simp [PyData.depth], rfl, by simp [PyData.weight]⟩, by decide, fun _ _ => ⟨tk_bl, .inl ⟨.bl b, rfl⟩⟩⟩, ⟨(fun i e => by cases e), "bool", by decide, fun _ _ => tk_bl⟩, rfl, .inl rfl, fun _ => ⟨fun _ => rfl, rfl⟩⟩
theorem odd_str {K : PySem.W.Frag} {H : Hp} {z : Str} (h : ShwB z = true) : OddV K H (.str z) none :=
  ⟨.inl ⟨.str z, "str", (shw_b h).1, by decide, fun _ _ => ⟨tk_str, .inl ⟨.str z, rfl⟩⟩⟩, ⟨(fun i e => by cases e), "str", by decide, fun _ _ => tk_str⟩, rfl, .inl rfl, fun _ => ⟨fun _ => rfl, rfl⟩⟩
theorem odd_lst {K : PySem.W.Frag} {H : Hp} {a : Addr} {xs : List V} {ds : List PyData} (h : H a = some (.lst xs)) (l : xs.length ≤ 3) (s : Shw (.list ds)) (n : PyData.hasDictAll ds = false) (d : ∀ H', DpAll K H' xs ds) : OddV K H (.ref a) none :=
  ⟨.inr ⟨a, xs, ds, rfl, h, l, s, n, fun H' _ => d H'⟩, ⟨(fun i e => by cases e), "list", by decide, fun _ s => tk_lst (CP.Same.to s h)⟩, rfl, .inr ⟨a, rfl, .inl ⟨_, h⟩⟩, fun _ => ⟨fun _ => rfl, rfl⟩⟩
theorem odd_tup {K : PySem.W.Frag} {H : Hp} {a : Addr} (h : H a = some (.tup [.int 2])) : OddV K H (.ref a) none :=
  ⟨.inl ⟨.tuple [.int 2], "tuple", ⟨by decide +kernel, by decide +kernel, by decide +kernel, by decide +kernel⟩, by decide, fun _ s => ⟨tk_tup (CP.Same.to s h), .inl ⟨.tup (.of (CP.Same.to s h)) (.cons (.int 2) .nil), by decide +kernel⟩⟩⟩, ⟨(fun i e => by cases e), "tuple", by decide, fun _ s => tk_tup (CP.Same.to s h)⟩, rfl, .inr ⟨a, rfl, .inr (.inl ⟨_, h⟩)⟩, fun _ => ⟨fun _ => rfl, rfl⟩⟩
theorem odd_dct {K : PySem.W.Frag} {H : Hp} {a : Addr} (h : H a = some (.dK [])) : OddV K H (.ref a) none :=
  ⟨.inl ⟨.dict [], "dict", ⟨by decide +kernel, by decide +kernel, by decide +kernel, by decide +kernel⟩, by decide, fun _ s => ⟨tk_dK (CP.Same.to s h), .inr (DpD.dct (.of (CP.Same.to s h)) .nil)⟩⟩, ⟨(fun i e => by cases e), "dict", by decide, fun _ s => tk_dK (CP.Same.to s h)⟩, rfl, .inr ⟨a, rfl, .inr (.inr ⟨_, h⟩)⟩, fun _ => ⟨fun _ => rfl, rfl⟩⟩
/-- a list that is new is not an older value -/
theorem new_not {K : PySem.W.Frag} {H : Hp} {v : V} {l : Addr} (h : Odd K H v) (k : Kd H v) (n : H l = none) : V.ref l ≠ v := fun e => by
  subst e
  rcases h with ⟨d, _, _⟩ | ⟨a0, xs, ds, e, h0, _⟩
  · rcases k with f | ⟨b, e, k⟩
    · cases f
    · cases e
      rcases k with ⟨_, k⟩ | ⟨_, k⟩ | ⟨_, k⟩ <;> (rw [n] at k; cases k)
  · cases e
    rw [n] at h0
    cases h0
/-- parts of which one argument is the first wrong one -/
def PartsOk (K : PySem.W.Frag) (way : Int) (v : V) (H : Hp) (tv : V) : Prop := ∃ t x y z u a b c d k, tv = .ref t ∧ H t = some (.tup [x, y, z, u]) ∧ ArgV K H x a ∧ ArgV K H y b ∧ ArgV K H z c ∧ ArgV K H u d ∧
  (∀ i j, a = some i → b = some j → 1 ≤ i → 1 ≤ j → i ≤ 40000 ∧ j ≤ 40000 ∧ i * j ≤ 2 ^ 31) ∧ firstBad way a b c d = some k ∧ [x, y, z, u][k]? = some v
theorem PartsOk.mono {K : PySem.W.Frag} {way : Int} {v : V} {H H' : Hp} {tv : V} (h : PartsOk K way v H tv) (s : Same H H') : PartsOk K way v H' tv := by
  obtain ⟨t, x, y, z, u, a, b, c, d, k, e, h0, h1, h2, h3, h4, h5⟩ := h
  exact ⟨t, x, y, z, u, a, b, c, d, k, e, s _ _ h0, h1.mono s, h2.mono s, h3.mono s, h4.mono s, h5⟩
theorem bad_few {v : V} {a b : Option Int} (h : badR a = true ∨ badR b = true) (i j : Int) (e1 : a = some i) (e2 : b = some j) (l1 : 1 ≤ i) (l2 : 1 ≤ j) : i ≤ 40000 ∧ j ≤ 40000 ∧ i * j ≤ 2 ^ 31 := by
  subst e1 e2
  rcases h with h | h <;> (simp [badR] at h; omega)
/-- such parts are told -/
theorem told_by (T : Txt K mg) {way : Int} {v : V} {H : Hp} {tv : V} {R : VK} {E : XK} (h : PartsOk K way v H tv) (od : Odd K H v) (kd : Kd H v) (w0 : 0 ≤ way) (w1 : way ≤ 3)
    (q : ∀ l H', Same H H' → H' l = some (.lst [.str "number", v]) → V.ref l ≠ v → R (.ref l) H') : sp_law_called T [.int way, tv] H R E := by
  obtain ⟨t, x, y, z, u, a, b, c, d, k, rfl, h0, h1, h2, h3, h4, h5, h6, h7⟩ := h
  refine ⟨x, y, z, u, a, b, c, d, h0, h1, h2, h3, h4, w0, w1, h5, ?_⟩
  rw [h6]
  exact ⟨v, h7, fun l H6 n6 s6 e6 => q l H6 s6 e6 (new_not od kd n6)⟩
theorem pow20 : CPw 10 20 := ⟨by decide, by decide, by decide +kernel⟩
theorem pow20v : (10 : Int) ^ (20 : Int).toNat = 10 ^ 20 := by decide +kernel
theorem pow29 : CPw 10 29 := ⟨by decide, by decide, by decide +kernel⟩
theorem pow29v : (10 : Int) ^ (29 : Int).toNat = 10 ^ 29 := by decide +kernel
def sp_law (_ : Txt K mg) : Sp := fun vs H Q _ => ∃ (a : Addr) (ns : List Int), vs = [.ref a] ∧ SqL K H a (ns.map V.int) ∧ ns.length ≤ 63 ∧ ∀ H', Q (.bl true) H'
def sp_top (K : PySem.W.Frag) : Sp := fun vs H Q _ => ∃ (a : Addr) (ns : List Int), vs = [.ref a] ∧ SqL K H a (ns.map V.int) ∧ ns.length ≤ 63 ∧ ∀ H', Q (.bl true) H'
theorem sp_law_top (T : Txt K mg) (vs : List V) (H : Hp) (Q : VK) (E : XK) (z : sp_top K vs H Q E) : sp_law T vs H Q E := z
def t_law (w : World) (T : Txt K mg) : TS := tSeq (tFor (iRng1 (tCons (tCB oMax2 (tCons (tC (.int 1)) (tCons (tCB (rLenA K) (tCons (tSl (rSlL K) (tVar 0) tNoPart (tPart (tC (.int 16)))) (tNil))) (tNil)))) (tNil))) (gName 1) (tSeq (tAsg (tCall (sp_law_purse T) [] E0 (tCons (tVar 0) (tCons (tVar 1) (tNil)))) (gName 2)) (tSeq (tAsg (tOp (rIxL K) (tLst (tCons (tC (.int 3)) (tCons (tC (.int 100)) (tCons (tC (.int 30000)) (tNil))))) (tCall (sp_law_draw T) [] E0 (tCons (tVar 2) (tCons (tC (.int 3)) (tNil))))) (gName 3)) (tSeq (tPar 4 5 (tCons (tOp oAdd (tC (.int 1)) (tCall (sp_law_draw T) [] E0 (tCons (tVar 2) (tCons (tVar 3) (tNil))))) (tCons (tOp oAdd (tC (.int 1)) (tCall (sp_law_draw T) [] E0 (tCons (tVar 2) (tCons (tVar 3) (tNil))))) (tNil)))) (tSeq (tAsg (tCall (sp_law_draw T) [] E0 (tCons (tVar 2) (tCons (tOp oMul (tVar 4) (tVar 5)) (tNil)))) (gName 6)) (tSeq (tFor (iList K (tLst (tCons (tC (.int 0)) (tCons (tUn oNeg (tC (.int 1))) (tCons (tC .non) (tCons (tC (.bl true)) (tCons (tC (.bl false)) (tCons (tC (.str "2")) (tCons (tLst (tCons (tC (.int 2)) (tNil))) (tCons (tTup (tCons (tC (.int 2)) (tNil))) (tCons (tDNewK) (tCons (tLst (tNil)) (tCons (tC (.str "")) (tCons (tOp oSub (tC (.int 0)) (tOp oPow (tC (.int 10)) (tC (.int 20)))) (tNil))))))))))))))) (gName 7) (tSeq (tIfS (tNot (tB (tCall (sp_law_firsts_right T) [] E0 (tCons (tVar 2) (tCons (tVar 7) (tCons (tVar 4) (tCons (tVar 5) (tCons (tVar 6) (tNil))))))))) (tRet (tC (.bl false))) (tNext)) (tSeq (tFor (iRng1 (tCons (tC (.int 4)) (tNil))) (gName 8) (tSeq (tFor (iList K (tLst (tCons (tTup (tCons (tVar 7) (tCons (tVar 7) (tCons (tVar 7) (tCons (tVar 7) (tNil)))))) (tCons (tTup (tCons (tVar 7) (tCons (tVar 5) (tCons (tVar 6) (tCons (tC (.int 1)) (tNil)))))) (tCons (tTup (tCons (tVar 4) (tCons (tVar 7) (tCons (tVar 7) (tCons (tVar 7) (tNil)))))) (tCons (tTup (tCons (tVar 4) (tCons (tVar 7) (tCons (tVar 6) (tCons (tC (.int 1)) (tNil)))))) (tNil))))))) (gName 9) (tIfS (tNot (tB (tCall (sp_law_is T) [] E0 (tCons (tCall (sp_law_called T) [] E0 (tCons (tVar 8) (tCons (tVar 9) (tNil)))) (tCons (tVar 7) (tNil)))))) (tRet (tC (.bl false))) (tNext))) (tIfS (tAnd (tTest (tOp rNe (tVar 8) (tC (.int 2)))) (tAnd (tTest (tOp (rNi01 K) (tVar 7) (tTup (tCons (tC (.int 0)) (tCons (tC (.bl false)) (tNil)))))) (tNot (tB (tCall (sp_law_is T) [] E0 (tCons (tCall (sp_law_called T) [] E0 (tCons (tVar 8) (tCons (tTup (tCons (tVar 4) (tCons (tVar 5) (tCons (tVar 7) (tCons (tVar 7) (tNil)))))) (tNil)))) (tCons (tVar 7) (tNil)))))))) (tRet (tC (.bl false))) (tNext)))) (tIfS (tAnd (tTest (tOp (rNi01 K) (tVar 7) (tTup (tCons (tC (.int 0)) (tCons (tC (.bl false)) (tNil)))))) (tNot (tB (tCall (sp_law_is T) [] E0 (tCons (tCall (sp_law_called T) [] E0 (tCons (tC (.int 0)) (tCons (tTup (tCons (tVar 4) (tCons (tVar 5) (tCons (tVar 6) (tCons (tVar 7) (tNil)))))) (tNil)))) (tCons (tVar 7) (tNil))))))) (tRet (tC (.bl false))) (tNext))))) (tSeq (tFor (iList K (tLst (tCons (tOp oMul (tVar 4) (tVar 5)) (tCons (tOp oAdd (tOp oMul (tVar 4) (tVar 5)) (tC (.int 1))) (tCons (tOp oPow (tC (.int 10)) (tC (.int 29))) (tCons (tC (.bl false)) (tNil))))))) (gName 10) (tFor (iTup K (tTup (tCons (tC (.int 0)) (tCons (tC (.int 1)) (tCons (tC (.int 3)) (tNil)))))) (gName 8) (tIfS (tNot (tB (tCall (sp_law_is T) [] E0 (tCons (tCall (sp_law_called T) [] E0 (tCons (tVar 8) (tCons (tTup (tCons (tVar 4) (tCons (tVar 5) (tCons (tVar 10) (tCons (tC .non) (tNil)))))) (tNil)))) (tCons (tVar 10) (tNil)))))) (tRet (tC (.bl false))) (tNext)))) (tSeq (tIfS (tNot (tB (tCall (sp_law_is T) [] E0 (tCons (tCall (sp_law_called T) [] E0 (tCons (tC (.int 0)) (tCons (tTup (tCons (tVar 4) (tCons (tVar 5) (tCons (tC (.int 0)) (tCons (tC (.bl false)) (tNil)))))) (tNil)))) (tCons (tC (.bl false)) (tNil)))))) (tRet (tC (.bl false))) (tNext)) (tSeq (tFor (iList K (tLst (tCons (tTup (tCons (tC (.int 30001)) (tCons (tC (.int 3)) (tCons (tC (.int 7)) (tCons (tC (.int 2)) (tNil)))))) (tCons (tTup (tCons (tC (.int 3)) (tCons (tC (.int 40000)) (tCons (tC (.int 7)) (tCons (tC (.int 2)) (tNil)))))) (tCons (tTup (tCons (tC (.int 40000)) (tCons (tC (.int 1)) (tCons (tC (.int 0)) (tCons (tC (.int 0)) (tNil)))))) (tNil)))))) (gName 9) (tFor (iRng1 (tCons (tC (.int 4)) (tNil))) (gName 8) (tIfS (tTest (tOp rNotN (tCall (sp_law_called T) [] E0 (tCons (tVar 8) (tCons (tVar 9) (tNil)))) (tC .non))) (tRet (tC (.bl false))) (tNext)))) (tFor (iList K (tLst (tCons (tC (.int 0)) (tCons (tVar 6) (tCons (tOp oSub (tOp oMul (tVar 4) (tVar 5)) (tC (.int 1))) (tNil)))))) (gName 11) (tFor (iTup K (tIf (tTest (tOp oGt (tVar 11) (tC (.int 0)))) (tTup (tCons (tC (.int 0)) (tCons (tC (.int 1)) (tCons (tC (.int 3)) (tNil))))) (tTup (tCons (tC (.int 0)) (tCons (tC (.int 1)) (tCons (tC (.int 2)) (tCons (tC (.int 3)) (tNil)))))))) (gName 8) (tIfS (tTest (tOp rNotN (tCall (sp_law_called T) [] E0 (tCons (tVar 8) (tCons (tTup (tCons (tVar 4) (tCons (tVar 5) (tCons (tVar 11) (tCons (tCall (sp_law_draw T) [] E0 (tCons (tVar 2) (tCons (tOp oPow (tC (.int 10)) (tC (.int 29))) (tNil)))) (tNil)))))) (tNil)))) (tC .non))) (tRet (tC (.bl false))) (tNext))))))))))))) (tRet (tC (.bl true)))
theorem len_law (T : Txt K mg) : ∀ (vs : List V) (H : Hp) (Q : VK) (E : XK), sp_law T vs H Q E → vs.length = (["_law_script"] : List Str).length := by
  rintro vs H Q E ⟨a, ns, rfl, h⟩
  rfl
theorem rd_law (T : Txt K mg) (vs : List V) (H : Hp) (Q : VK) (E : XK) (h : sp_law T vs H Q E) : t_law w T { nx := fun _ H' => Q .non H', rt := Q } (start ["_law_script", "_law_cell", "_law_purse_here", "_law_most", "_law_high", "_law_wide", "_law_spot", "_law_odd", "_law_way", "_law_parts", "_law_far", "_law_good"] vs) H := by
  obtain ⟨a, ns, rfl, ha, hn, q⟩ := h
  have sz : sizeLine = 16777216 := rfl
  unfold t_law
  walk_at "st"
  repeat walk_at "w"
  rename_i l0 H0 l1 s0 l2
  have hc := cutV_length (ns.map V.int) none (some 16)
  rw [List.length_map] at hc
  generalize (cutV (ns.map V.int) none (some 16)).length = k at hc ⊢
  have hj : -(2 ^ 62) ≤ (if (k : Int) > 1 then (k : Int) else 1) ∧ (if (k : Int) > 1 then (k : Int) else 1) < 2 ^ 62 ∧ (if (k : Int) > 1 then (k : Int) else 1) < 2 ^ 10 := by split <;> omega
  generalize (if (k : Int) > 1 then (k : Int) else 1) = j at hj ⊢
  refine r_rng hj.1 hj.2.1 ?_
  refine for_range (fun i σ H' => Same H H' ∧ ∃ x1 x2 x3 x4 x5 x6 x7 x8 x9 xa xb, σ = [some (.ref a), x1, x2, x3, x4, x5, x6, x7, x8, x9, xa, xb]) ⟨s0, _, _, _, _, _, _, _, _, _, _, _, rfl⟩ ?_ ?_
  · rintro i σ H1 hi ⟨s1, x1, x2, x3, x4, x5, x6, x7, x8, x9, xa, xb, rfl⟩
    clear s0 l2 l1
    repeat walk_at "w"
    refine ⟨ns, L2.Same.seq s1 ha, by omega, by omega, fun p H2 x y p0 s2 hp => ?_⟩
    have pw : l0 = l0 := rfl
    repeat walk_at "w"
    rename_i lm H3 nm s3 hm
    refine ⟨x, y, _, hp.mono s3, by omega, by decide, by decide, fun d1 H4 xx1 z1 a1 b1 t1 hp1 hz1 => ?_⟩
    have lmp : lm ≠ p := fun e => by subst e; rw [hp.1] at nm; cases nm
    have hm4 := t1 _ _ lmp hm
    have T4 : SB p H2 H4 := fun b o ne e => t1 b o ne (s3 b o e)
    obtain ⟨mo, hmo, mo0, mo1⟩ : ∃ mo : Int, [V.int 3, V.int 100, V.int 30000][d1.toNat]? = some (.int mo) ∧ 1 ≤ mo ∧ mo ≤ 30000 := by
      have : d1.toNat < 3 := by omega
      match hd : d1.toNat, this with
      | 0, _ => exact ⟨3, rfl, by decide, by decide⟩
      | 1, _ => exact ⟨100, rfl, by decide, by decide⟩
      | 2, _ => exact ⟨30000, rfl, by decide, by decide⟩
    rw [show d1 = (d1.toNat : Int) by omega]
    refine r_ixL (.of hm4) (v := .int mo) (atI_nat hmo) ?_
    clear hmo hm4 lmp hm s3 nm
    repeat walk_at "w"
    refine ⟨xx1, y, z1, hp1, by omega, by omega, by omega, fun d2 H5 xx2 z2 a2 b2 t2 hp2 hz2 => ?_⟩
    repeat walk_at "w"
    refine ⟨xx2, y, z2, hp2, by omega, by omega, by omega, fun d3 H6 xx3 z3 a3 b3 t3 hp3 hz3 => ?_⟩
    repeat walk_at "w"
    have r0 : 1 ≤ 1 + d2 := by omega
    have r1 : 1 + d2 ≤ 30000 := by omega
    have c0 : 1 ≤ 1 + d3 := by omega
    have c1 : 1 + d3 ≤ 30000 := by omega
    generalize 1 + d2 = r at r0 r1 ⊢
    generalize 1 + d3 = c at c0 c1 ⊢
    obtain ⟨rc0, rc1⟩ := area r0 r1 c0 c1
    repeat walk_at "w"
    refine ⟨xx3, y, z3, hp3, by omega, by omega, by omega, fun sp H7 xx4 z4 a4 b4 t4 hp4 hz4 => ?_⟩
    have S7 : SB p H2 H7 := fun b o ne e => t4 b o ne (t3 b o ne (t2 b o ne (T4 b o ne e)))
    clear T4 t1 t2 t3 t4 hp1 hp2 hp3
    repeat walk_at "w"
    rename_i la Ha na sa ha' tb Hb nb sb hb dc Hc nc sc hcc ld Hd nd sd hd
    refine r_I pow20 ?_
    rw [pow20v]
    repeat walk_at "w"
    rename_i le Hs ne' se he
    have SS : Same H7 Hs := (((sa.trans sb).trans sc).trans sd).trans se
    have fl : ∀ {b : Addr}, H7 b = none → b ≠ p := fun {b} n e => by subst e; rw [hp4.1] at n; cases n
    have pa : la ≠ p := fl na
    have pb : tb ≠ p := fl (sa.free nb)
    have pc : dc ≠ p := fl ((sa.trans sb).free nc)
    have pd : ld ≠ p := fl (((sa.trans sb).trans sc).free nd)
    have pe : le ≠ p := fl ((((sa.trans sb).trans sc).trans sd).free ne')
    have ka : hid2 p p Hs la = _ := hid2_at (CP.Same.to (((sb.trans sc).trans sd).trans se) ha') pa pa
    have kb : hid2 p p Hs tb = _ := hid2_at (CP.Same.to ((sc.trans sd).trans se) hb) pb pb
    have kc : hid2 p p Hs dc = _ := hid2_at (CP.Same.to (sd.trans se) hcc) pc pc
    have kd : hid2 p p Hs ld = _ := hid2_at (CP.Same.to se hd) pd pd
    have all : ∀ v ∈ [V.int 0, V.int (-1), V.non, V.bl true, V.bl false, V.str "2", V.ref la, V.ref tb, V.ref dc, V.ref ld, V.str "", V.int (0 - 10 ^ 20)], ∃ a, OddV K (hid2 p p Hs) v a := fun v hv => by
      simp only [List.mem_cons, List.not_mem_nil, or_false] at hv
      rcases hv with rfl | rfl | rfl | rfl | rfl | rfl | rfl | rfl | rfl | rfl | rfl | rfl
      · exact ⟨_, odd_int (by decide) (by decide)⟩
      · exact ⟨_, odd_int (by decide) (by decide)⟩
      · exact ⟨_, odd_non⟩
      · exact ⟨_, odd_bl true⟩
      · exact ⟨_, odd_bl false⟩
      · exact ⟨_, odd_str (by decide +kernel)⟩
      · exact ⟨_, odd_lst ka (by simp) (shw_list (shw_int (by decide))) rfl fun _ => .cons (.int 2) .nil⟩
      · exact ⟨_, odd_tup kb⟩
      · exact ⟨_, odd_dct kc⟩
      · exact ⟨_, odd_lst kd (by simp) ⟨rfl, by decide, rfl, by decide⟩ rfl fun _ => .nil⟩
      · exact ⟨_, odd_str (by decide +kernel)⟩
      · exact ⟨_, odd_int (by decide) (by decide)⟩
    have hps := hp4.mono SS
    have S8 : SB p H2 Hs := fun b o ne e => SS b o (S7 b o ne e)
    replace he : Hs le = some (.lst [V.int 0, V.int (-1), V.non, V.bl true, V.bl false, V.str "2", V.ref la, V.ref tb, V.ref dc, V.ref ld, V.str "", V.int (0 - 10 ^ 20)]) := he
    have xl : [V.int 0, V.int (-1), V.non, V.bl true, V.bl false, V.str "2", V.ref la, V.ref tb, V.ref dc, V.ref ld, V.str "", V.int (0 - 10 ^ 20)].length < 1000 := by simp
    clear ka kb kc kd pa pb pc pd sa sb sc sd se na nb nc nd ha' hb hcc hd SS S7 hp4 fl
    generalize [V.int 0, V.int (-1), V.non, V.bl true, V.bl false, V.str "2", V.ref la, V.ref tb, V.ref dc, V.ref ld, V.str "", V.int (0 - 10 ^ 20)] = xs at he all xl ⊢
    refine ⟨le, rfl, ⟨_, .of he⟩, for_list (K := K) (a := le) (xs := xs) (fun i2 σ H' => SB p Hs H' ∧ ∃ x' z' y7 y8 y9 ya yb, Purse H' p x' y z' ∧ z' ≤ z4 + 60 * i2 ∧ σ = [some (.ref a), some (.int (0 + (i : Int))), some (.ref p), some (.int mo), some (.int r), some (.int c), some (.int sp), y7, y8, y9, ya, yb]) ⟨fun _ _ _ e => e, _, _, _, _, _, _, _, hps, by omega, rfl⟩ (fun _ _ _ _ w => .of (w.1 _ _ pe he)) ?_ ?_⟩
    · rintro i2 v σ H8 hx ⟨t8, x8, z8, y7, y8, y9, ya, yb, hp8, hz8, rfl⟩
      obtain ⟨av, od⟩ := all v (List.mem_of_getElem? hx)
      have il : i2 < xs.length := (List.getElem?_eq_some_iff.mp hx).1
      repeat walk_at "w"
      refine ⟨x8, y, z8, av, hp8, by omega, od.mono (hid2_p (q := p) t8), r0, r1, c0, c1, a4, b4, fun H9 x9 z9 t9 hp9 hz9 => ?_⟩
      have od9 : OddV K H9 v av := (od.mono (hid2_p (q := p) (t8.trans' t9))).mono hid2_same
      have T9 := t8.trans' t9
      clear t8 t9 hp8
      repeat walk_at "w"
      refine for_range (fun i3 σ H' => Same H9 H' ∧ ∃ y8 y9, σ = [some (.ref a), some (.int (0 + (i : Int))), some (.ref p), some (.int mo), some (.int r), some (.int c), some (.int sp), some v, y8, y9, ya, yb]) ⟨Same.refl _, _, _, rfl⟩ ?_ ?_
      · rintro i3 σ Ha hi3 ⟨ta, y8, y9, rfl⟩
        have i3' : i3 < 4 := hi3
        have oda := od9.mono ta
        generalize ew : (0 : Int) + (i3 : Int) = way
        have w0 : 0 ≤ way := by omega
        have w1 : way ≤ 3 := by omega
        repeat walk_at "w"
        rename_i u1 Hb nb sb hb u2 Hc nc sc hc' u3 Hd nd sd hd u4 He ne2 se hee lf Hf nf sf hf
        have S5 := (((sb.trans sc).trans sd).trans se).trans sf
        have S4 := ((sc.trans sd).trans se).trans sf
        have S3 := (sd.trans se).trans sf
        have S2 := se.trans sf
        have odf := oda.mono S5
        have pk : ∀ x ∈ [V.ref u1, V.ref u2, V.ref u3, V.ref u4], PartsOk K way v Hf x := fun x hx => by
          simp only [List.mem_cons, List.not_mem_nil, or_false] at hx
          rcases hx with rfl | rfl | rfl | rfl
          · exact ⟨u1, _, _, _, _, av, av, av, av, 0, rfl, CP.Same.to S4 hb, odf.arg, odf.arg, odf.arg, odf.arg, bad_few (v := v) (.inl odf.row), fb_row odf.row, rfl⟩
          · exact ⟨u2, _, _, _, _, av, some c, some sp, some 1, 0, rfl, CP.Same.to S3 hc', odf.arg, rfl, rfl, rfl, bad_few (v := v) (.inl odf.row), fb_row odf.row, rfl⟩
          · exact ⟨u3, _, _, _, _, some r, av, av, av, 1, rfl, CP.Same.to S2 hd, rfl, odf.arg, odf.arg, odf.arg, bad_few (v := v) (.inr odf.row), fb_col r0 odf.row, rfl⟩
          · exact ⟨u4, _, _, _, _, some r, av, some sp, some 1, 1, rfl, CP.Same.to sf hee, rfl, odf.arg, rfl, rfl, bad_few (v := v) (.inr odf.row), fb_col r0 odf.row, rfl⟩
        have Sf := ta.trans S5
        clear S5 S4 S3 S2 sb sc sd se sf nb nc nd ne2 hb hc' hd hee oda ta
        refine ⟨lf, rfl, ⟨_, .of hf⟩, for_list (K := K) (a := lf) (xs := [V.ref u1, V.ref u2, V.ref u3, V.ref u4]) (fun _ σ H' => Same Hf H' ∧ ∃ y9, σ = [some (.ref a), some (.int (0 + (i : Int))), some (.ref p), some (.int mo), some (.int r), some (.int c), some (.int sp), some v, some (.int way), y9, ya, yb]) ⟨Same.refl _, _, rfl⟩ (fun _ _ _ _ w => .of (CP.Same.to w.1 hf)) ?_ ?_⟩
        · rintro i4 tv σ Hg hx ⟨sg, y9, rfl⟩
          have pk' := (pk tv (List.mem_of_getElem? hx)).mono sg
          repeat walk_at "w"
          refine told_by T pk' (odf.mono sg).odd (odf.mono sg).kd w0 w1 fun l Hh sh hl nl => ?_
          repeat walk_at "w"
          refine ⟨"number", hl, (odf.mono (sg.trans sh)).odd, nl, fun Hi si => ?_⟩
          repeat walk_at "w"
          exact ⟨(sg.trans sh).trans si, _, rfl⟩
        · rintro σ Hg ⟨sg, y9, rfl⟩
          repeat walk_at "w"
          have Sg := Sf.trans sg
          have odg := odf.mono sg
          refine if_nd (fun kw => ?_) fun kw => ?_
          · repeat walk_at "w"
            rename_i m1 Hh nh sh hh
            have odh := odg.mono sh
            refine ⟨m1, rfl, .of hh, odh.kd, ?_⟩
            refine ⟨_, rfl, ?_⟩
            cases e0 : is0 v with
            | true =>
              repeat walk_at "w"
              exact ⟨Sg.trans sh, _, _, rfl⟩
            | false =>
              repeat walk_at "w"
              rename_i m2 Hi ni si hi'
              have odi := odh.mono si
              refine told_by T ⟨m2, _, _, _, _, some r, some c, av, av, 2, rfl, hi', rfl, rfl, odi.arg, odi.arg, fun i j e1 e2 l1 l2 => by cases e1; cases e2; omega, fb_place r0 c0 kw ((odi.pl e0).1 _), rfl⟩ odi.odd odi.kd w0 w1 fun l Hj sj hl nl => ?_
              repeat walk_at "w"
              refine ⟨"number", hl, (odi.mono sj).odd, nl, fun Hk sk => ?_⟩
              repeat walk_at "w"
              exact ⟨(((Sg.trans sh).trans si).trans sj).trans sk, _, _, rfl⟩
          · repeat walk_at "w"
            exact ⟨Sg, _, _, rfl⟩
      · rintro σ Ha ⟨ta, y8, y9, rfl⟩
        repeat walk_at "w"
        rename_i m1 Hh nh sh hh
        have odh := od9.mono (ta.trans sh)
        refine ⟨m1, rfl, .of hh, odh.kd, ?_⟩
        refine ⟨_, rfl, ?_⟩
        have fin : ∀ {H'}, Same H9 H' → SB p Hs H' ∧ ∃ x' z', Purse H' p x' y z' ∧ z' ≤ z4 + 60 * ((i2 + 1 : Nat) : Int) := fun s => ⟨fun b o ne e => s _ _ (T9 b o ne e), _, _, hp9.mono s, by omega⟩
        cases e0 : is0 v with
        | true =>
          repeat walk_at "w"
          obtain ⟨f1, x', z', f2, f3⟩ := fin (ta.trans sh)
          exact ⟨f1, x', z', _, _, _, _, _, f2, f3, rfl⟩
        | false =>
          repeat walk_at "w"
          rename_i m2 Hi ni si hi'
          have odi := odh.mono si
          have bp : badP (r * c) (some sp) = false := by simp [badP]; omega
          refine told_by T ⟨m2, _, _, _, _, some r, some c, some sp, av, 3, rfl, hi', rfl, rfl, rfl, odi.arg, fun i j e1 e2 l1 l2 => by cases e1; cases e2; omega, fb_count r0 c0 rfl bp (odi.pl e0).2, rfl⟩ odi.odd odi.kd (by decide) (by decide) fun l Hj sj hl nl => ?_
          repeat walk_at "w"
          refine ⟨"number", hl, (odi.mono sj).odd, nl, fun Hk sk => ?_⟩
          repeat walk_at "w"
          obtain ⟨f1, x', z', f2, f3⟩ := fin ((((ta.trans sh).trans si).trans sj).trans sk)
          exact ⟨f1, x', z', _, _, _, _, _, f2, f3, rfl⟩
    · rintro σ H8 ⟨t8, x8, z8, y7, y8, y9, ya, yb, hp8, hz8, rfl⟩
      have S8' : SB p H2 H8 := S8.trans' t8
      clear t8 all he pe hps S8
      repeat walk_at "w"
      refine r_I pow29 ?_
      rw [pow29v]
      repeat walk_at "w"
      rename_i lf H9 n9 s9 h9
      have kf : ∀ v ∈ [V.int (r * c), V.int (r * c + 1), V.int (10 ^ 29), V.bl false], ∃ b, (∀ H', Odd K H' v ∧ Kd H' v ∧ ArgV K H' v b) ∧ badP (r * c) b = true := fun v hv => by
        simp only [List.mem_cons, List.not_mem_nil, or_false] at hv
        have num : ∀ i : Int, r * c ≤ i → i ≤ 10 ^ 29 → (∀ H', Odd K H' (.int i) ∧ Kd H' (.int i) ∧ ArgV K H' (.int i) (some i)) ∧ badP (r * c) (some i) = true := fun i h1 h2 =>
          ⟨fun H' => ⟨.inl ⟨.int i, "int", (shw_int (by omega)).1, by decide, fun _ _ => ⟨tk_int, .inl ⟨.int i, rfl⟩⟩⟩, .inl rfl, rfl⟩, by simp [badP]; omega⟩
        rcases hv with rfl | rfl | rfl | rfl
        · exact ⟨_, num _ (by omega) (by omega)⟩
        · exact ⟨_, num _ (by omega) (by omega)⟩
        · exact ⟨_, num _ (by omega) (by omega)⟩
        · exact ⟨none, fun H' => ⟨(odd_bl false).odd, .inl rfl, (odd_bl false).arg⟩, rfl⟩
      refine ⟨lf, rfl, ⟨_, .of h9⟩, for_list (K := K) (a := lf) (xs := [V.int (r * c), V.int (r * c + 1), V.int (10 ^ 29), V.bl false]) (fun i2 σ H' => Same H9 H' ∧ ∃ y7 y8 y9 ya yb, σ = [some (.ref a), some (.int (0 + (i : Int))), some (.ref p), some (.int mo), some (.int r), some (.int c), some (.int sp), y7, y8, y9, ya, yb]) ⟨Same.refl _, _, _, _, _, _, rfl⟩ (fun _ _ _ _ w => .of (CP.Same.to w.1 h9)) ?_ ?_⟩
      · rintro i2 v σ Ha hx ⟨ta, y7, y8, y9, ya, yb, rfl⟩
        obtain ⟨b, fv, bp⟩ := kf v (List.mem_of_getElem? hx)
        repeat walk_at "w"
        rename_i m0 Hb nb sb hb
        refine ⟨m0, rfl, ⟨_, .of hb⟩, for_tup (K := K) (a := m0) (xs := [.int 0, .int 1, .int 3]) (fun _ σ H' => Same Hb H' ∧ ∃ y8 y9, σ = [some (.ref a), some (.int (0 + (i : Int))), some (.ref p), some (.int mo), some (.int r), some (.int c), some (.int sp), y7, y8, y9, some v, yb]) ⟨Same.refl _, _, _, rfl⟩ (fun _ _ _ _ w => .of (CP.Same.to w.1 hb)) ?_ ?_⟩
        · rintro i3 x σ Hc hx3 ⟨tc, y8, y9, rfl⟩
          obtain ⟨way, rfl, w0, w1, w2⟩ : ∃ way : Int, x = .int way ∧ 0 ≤ way ∧ way ≤ 3 ∧ way ≠ 2 := by
            match i3, hx3 with
            | 0, e => cases e; exact ⟨0, rfl, by decide⟩
            | 1, e => cases e; exact ⟨1, rfl, by decide⟩
            | 2, e => cases e; exact ⟨3, rfl, by decide⟩
          repeat walk_at "w"
          rename_i m2 Hi ni si hi'
          refine told_by T ⟨m2, _, _, _, _, some r, some c, b, none, 2, rfl, hi', rfl, rfl, (fv Hi).2.2, ⟨(fun i e => by cases e), "NoneType", by decide, fun _ _ => tk_non⟩, fun i j e1 e2 l1 l2 => by cases e1; cases e2; omega, fb_place r0 c0 w2 bp, rfl⟩ (fv Hi).1 (fv Hi).2.1 w0 w1 fun l Hj sj hl nl => ?_
          repeat walk_at "w"
          refine ⟨"number", hl, (fv Hj).1, nl, fun Hk sk => ?_⟩
          repeat walk_at "w"
          exact ⟨((tc.trans si).trans sj).trans sk, _, _, rfl⟩
        · rintro σ Hc ⟨tc, y8, y9, rfl⟩
          repeat walk_at "w"
          exact ⟨(ta.trans sb).trans tc, _, _, _, _, _, rfl⟩
      · rintro σ Ha ⟨ta, y7, y8, y9, ya, yb, rfl⟩
        have Sa := s9.trans ta
        clear h9 kf n9
        repeat walk_at "w"
        rename_i m2 Hi ni si hi'
        have fo := odd_bl (K := K) (H := Hi) false
        refine told_by T ⟨m2, _, _, _, _, some r, some c, some 0, none, 3, rfl, hi', rfl, rfl, rfl, fo.arg, fun i j e1 e2 l1 l2 => by cases e1; cases e2; omega, fb_count r0 c0 rfl (by simp [badP]; omega) rfl, rfl⟩ fo.odd fo.kd (by decide) (by decide) fun l Hj sj hl nl => ?_
        repeat walk_at "w"
        refine ⟨"number", hl, (odd_bl false).odd, nl, fun Hk sk => ?_⟩
        repeat walk_at "w"
        rename_i v1 Hl n1' sl1 hl1 v2 Hm n2' sl2 hl2 v3 Hn n3' sl3 hl3 v4 Ho n4' sl4 hl4
        have So : Same Ha Ho := (((((si.trans sj).trans sk).trans sl1).trans sl2).trans sl3).trans sl4
        have g1 := CP.Same.to ((sl2.trans sl3).trans sl4) hl1
        have g2 := CP.Same.to (sl3.trans sl4) hl2
        have g3 := CP.Same.to sl4 hl3
        have gd : ∀ v ∈ [V.ref v1, V.ref v2, V.ref v3], ∃ t i j k n, v = .ref t ∧ Ho t = some (.tup [.int i, .int j, .int k, .int n]) ∧ 1 ≤ i ∧ 1 ≤ j ∧ i ≤ 40000 ∧ j ≤ 40000 ∧ i * j ≤ 2 ^ 31 ∧ badP (i * j) (some k) = false ∧ badC (some n) = false := fun v hv => by
          simp only [List.mem_cons, List.not_mem_nil, or_false] at hv
          rcases hv with rfl | rfl | rfl
          · exact ⟨v1, _, _, _, _, rfl, g1, by decide, by decide, by decide, by decide, by decide, by decide, by decide⟩
          · exact ⟨v2, _, _, _, _, rfl, g2, by decide, by decide, by decide, by decide, by decide, by decide, by decide⟩
          · exact ⟨v3, _, _, _, _, rfl, g3, by decide, by decide, by decide, by decide, by decide, by decide, by decide⟩
        have S9' := Sa.trans So
        clear So g1 g2 g3 sl1 sl2 sl3 sl4 si sj sk hl1 hl2 hl3 hi' n1' n2' n3' n4' ni fo hl nl Sa ta s9
        refine ⟨v4, rfl, ⟨_, .of hl4⟩, for_list (K := K) (a := v4) (xs := [V.ref v1, V.ref v2, V.ref v3]) (fun i2 σ H' => Same Ho H' ∧ ∃ y7 y8 y9 ya yb, σ = [some (.ref a), some (.int (0 + (i : Int))), some (.ref p), some (.int mo), some (.int r), some (.int c), some (.int sp), y7, y8, y9, ya, yb]) ⟨Same.refl _, _, _, _, _, _, rfl⟩ (fun _ _ _ _ w => .of (CP.Same.to w.1 hl4)) ?_ ?_⟩
        · rintro i2 v σ Hb hx ⟨tb', y7, y8, y9, ya, yb, rfl⟩
          obtain ⟨t, i0, j0, k0, n0, rfl, h0, l1, l2, l3, l4, l5, l6, l7⟩ := gd v (List.mem_of_getElem? hx)
          replace h0 := CP.Same.to tb' h0
          repeat walk_at "w"
          refine for_range (fun _ σ H' => Same Hb H' ∧ ∃ y8, σ = [some (.ref a), some (.int (0 + (i : Int))), some (.ref p), some (.int mo), some (.int r), some (.int c), some (.int sp), y7, y8, some (.ref t), ya, yb]) ⟨Same.refl _, _, rfl⟩ ?_ ?_
          · rintro i3 σ Hc hi3 ⟨tc, y8, rfl⟩
            have i3' : i3 < 4 := hi3
            generalize ew : (0 : Int) + (i3 : Int) = way
            repeat walk_at "w"
            refine ⟨_, _, _, _, some i0, some j0, some k0, some n0, CP.Same.to tc h0, rfl, rfl, rfl, rfl, by omega, by omega, fun i j e1 e2 _ _ => by cases e1; cases e2; exact ⟨l3, l4, l5⟩, ?_⟩
            rw [fb_none l1 l2 (.inr ⟨l6, fun _ => l7⟩)]
            refine fun Hd sd => ?_
            repeat walk_at "w"
            exact ⟨tc.trans sd, _, rfl⟩
          · rintro σ Hc ⟨tc, y8, rfl⟩
            repeat walk_at "w"
            exact ⟨tb'.trans tc, _, _, _, _, _, rfl⟩
        · rintro σ Hb ⟨tb', y7, y8, y9, ya, yb, rfl⟩
          have Sb' := S9'.trans tb'
          have hpb := hp8.mono Sb'
          clear gd hl4 S9' tb'
          repeat walk_at "w"
          rename_i lg Hc nc sc hc'
          have S2c : SB p H2 Hc := fun b o ne e => sc _ _ (Sb' _ _ (S8' b o ne e))
          have hpc := hpb.mono sc
          have lgp : lg ≠ p := fun e => by subst e; rw [hpb.1] at nc; cases nc
          clear Sb' hpb sc nc S8' hp8
          refine ⟨lg, rfl, ⟨_, .of hc'⟩, for_list (K := K) (a := lg) (xs := [V.int 0, V.int sp, V.int (r * c - 1)]) (fun i2 σ H' => SB p Hc H' ∧ ∃ x' z' y7 y8 y9 ya yb, Purse H' p x' y z' ∧ z' ≤ z8 + 1000 * (i2 : Int) ∧ σ = [some (.ref a), some (.int (0 + (i : Int))), some (.ref p), some (.int mo), some (.int r), some (.int c), some (.int sp), y7, y8, y9, ya, yb]) ⟨fun _ _ _ e => e, _, _, _, _, _, _, _, hpc, by omega, rfl⟩ (fun _ _ _ _ w => .of (w.1 _ _ lgp hc')) ?_ ?_⟩
          · rintro i2 v σ Hd hx ⟨td, x9, z9, y7, y8, y9, ya, yb, hp9, hz9, rfl⟩
            have i2' : i2 < 3 := (List.getElem?_eq_some_iff.mp hx).1
            obtain ⟨g, rfl, g0, g1⟩ : ∃ g : Int, v = .int g ∧ 0 ≤ g ∧ g < r * c := by
              match i2, hx with
              | 0, e => cases e; exact ⟨0, rfl, by decide, by omega⟩
              | 1, e => cases e; exact ⟨sp, rfl, a4, b4⟩
              | 2, e => cases e; exact ⟨r * c - 1, rfl, by omega, by omega⟩
            repeat walk_at "w"
            refine if_d (fun kg => ?_) fun kg => ?_
            · repeat walk_at "w"
              rename_i m0 He ne3 se hee
              have hpe := hp9.mono se
              have m0p : m0 ≠ p := fun e => by subst e; rw [hp9.1] at ne3; cases ne3
              refine ⟨m0, rfl, ⟨_, .of hee⟩, for_tup (K := K) (a := m0) (xs := [.int 0, .int 1, .int 3]) (fun i3 σ H' => SB p He H' ∧ ∃ x' z' y8, Purse H' p x' y z' ∧ z' ≤ z9 + 60 * (i3 : Int) ∧ σ = [some (.ref a), some (.int (0 + (i : Int))), some (.ref p), some (.int mo), some (.int r), some (.int c), some (.int sp), y7, y8, y9, ya, some (.int g)]) ⟨fun _ _ _ e => e, _, _, _, hpe, by omega, rfl⟩ (fun _ _ _ _ w => .of (w.1 _ _ m0p hee)) ?_ ?_⟩
              · rintro i3 x σ Hf hx3 ⟨tf, xf, zf, y8, hpf, hzf, rfl⟩
                have i3' : i3 < 3 := (List.getElem?_eq_some_iff.mp hx3).1
                obtain ⟨way, rfl, w0, w1⟩ : ∃ way : Int, x = .int way ∧ 0 ≤ way ∧ way ≤ 3 := by
                  match i3, hx3 with
                  | 0, e => cases e; exact ⟨0, rfl, by decide, by decide⟩
                  | 1, e => cases e; exact ⟨1, rfl, by decide, by decide⟩
                  | 2, e => cases e; exact ⟨3, rfl, by decide, by decide⟩
                repeat walk_at "w"
                refine r_I pow29 ?_
                rw [pow29v]
                repeat walk_at "w"
                refine ⟨xf, y, zf, hpf, by omega, by decide, by decide, fun d Hg xg zg ag bg tg hpg hzg => ?_⟩
                repeat walk_at "w"
                rename_i mt Hh nh sh hh
                refine ⟨_, _, _, _, some r, some c, some g, some d, hh, rfl, rfl, rfl, rfl, w0, w1, fun i j e1 e2 _ _ => by cases e1; cases e2; omega, ?_⟩
                rw [fb_none r0 c0 (.inr ⟨by simp [badP]; omega, fun _ => by simp [badC]; omega⟩)]
                refine fun Hi si => ?_
                repeat walk_at "w"
                exact ⟨fun b o ne e => si _ _ (sh _ _ (tg b o ne (tf b o ne e))), _, _, _, hpg.mono (sh.trans si), by omega, rfl⟩
              · rintro σ Hf ⟨tf, xf, zf, y8, hpf, hzf, rfl⟩
                repeat walk_at "w"
                exact ⟨fun b o ne e => tf b o ne (se _ _ (td b o ne e)), _, _, _, _, _, _, _, hpf, by simp only [List.length_cons, List.length_nil] at hzf; omega, rfl⟩
            · repeat walk_at "w"
              rename_i m0 He ne3 se hee
              have hpe := hp9.mono se
              have m0p : m0 ≠ p := fun e => by subst e; rw [hp9.1] at ne3; cases ne3
              refine ⟨m0, rfl, ⟨_, .of hee⟩, for_tup (K := K) (a := m0) (xs := [.int 0, .int 1, .int 2, .int 3]) (fun i3 σ H' => SB p He H' ∧ ∃ x' z' y8, Purse H' p x' y z' ∧ z' ≤ z9 + 60 * (i3 : Int) ∧ σ = [some (.ref a), some (.int (0 + (i : Int))), some (.ref p), some (.int mo), some (.int r), some (.int c), some (.int sp), y7, y8, y9, ya, some (.int g)]) ⟨fun _ _ _ e => e, _, _, _, hpe, by omega, rfl⟩ (fun _ _ _ _ w => .of (w.1 _ _ m0p hee)) ?_ ?_⟩
              · rintro i3 x σ Hf hx3 ⟨tf, xf, zf, y8, hpf, hzf, rfl⟩
                have i3' : i3 < 4 := (List.getElem?_eq_some_iff.mp hx3).1
                obtain ⟨way, rfl, w0, w1⟩ : ∃ way : Int, x = .int way ∧ 0 ≤ way ∧ way ≤ 3 := by
                  match i3, hx3 with
                  | 0, e => cases e; exact ⟨0, rfl, by decide, by decide⟩
                  | 1, e => cases e; exact ⟨1, rfl, by decide, by decide⟩
                  | 2, e => cases e; exact ⟨2, rfl, by decide, by decide⟩
                  | 3, e => cases e; exact ⟨3, rfl, by decide, by decide⟩
                repeat walk_at "w"
                refine r_I pow29 ?_
                rw [pow29v]
                repeat walk_at "w"
                refine ⟨xf, y, zf, hpf, by omega, by decide, by decide, fun d Hg xg zg ag bg tg hpg hzg => ?_⟩
                repeat walk_at "w"
                rename_i mt Hh nh sh hh
                refine ⟨_, _, _, _, some r, some c, some g, some d, hh, rfl, rfl, rfl, rfl, w0, w1, fun i j e1 e2 _ _ => by cases e1; cases e2; omega, ?_⟩
                rw [fb_none r0 c0 (.inr ⟨by simp [badP]; omega, fun _ => by simp [badC]; omega⟩)]
                refine fun Hi si => ?_
                repeat walk_at "w"
                exact ⟨fun b o ne e => si _ _ (sh _ _ (tg b o ne (tf b o ne e))), _, _, _, hpg.mono (sh.trans si), by omega, rfl⟩
              · rintro σ Hf ⟨tf, xf, zf, y8, hpf, hzf, rfl⟩
                repeat walk_at "w"
                exact ⟨fun b o ne e => tf b o ne (se _ _ (td b o ne e)), _, _, _, _, _, _, _, hpf, by simp only [List.length_cons, List.length_nil] at hzf; omega, rfl⟩
          · rintro σ Hd ⟨td, x9, z9, y7, y8, y9, ya, yb, hp9, hz9, rfl⟩
            repeat walk_at "w"
            exact ⟨CP.Same.sb (s1.trans s2) (s1.free p0) (S2c.trans' td), _, _, _, _, _, _, _, _, _, _, _, rfl⟩
  · rintro σ H1 ⟨s1, x1, x2, x3, x4, x5, x6, x7, x8, x9, xa, xb, rfl⟩
    repeat walk_at "w"
    exact q _

theorem ok_law (T : Txt K mg) : FnG P w K mg base CX0 7 T.a_law T.fd_law ["_law_script"] (sp_law T) :=
  Fun.okG T.F_law sc_law (len_law T) fun cdv A outer s H vs Q E gd hr h => ⟨t_law w T, PSs.nox (pss_cons (ps_for PassesOwn.never rfl (pi_range1 (by rfl) T.n_range (pa_cons (pe_callB (call_maxA rfl) (by rfl) T.n_max (by decide +kernel) (pa_cons pe_int (pa_cons (pe_callB call_lenA (by rfl) T.n_len (by decide +kernel) (pa_cons (pe_slice sl_list (pv 0) po_none (po_some pe_int)) pa_nil)) pa_nil))) pa_nil)) (pg_name (i := 1) sc_law.nd rfl (Or.inl rfl)) (pss_cons (ps_set (i := 2) sc_law.nd rfl (Or.inl rfl) (pe_call (ok_law_purse T) (hr.mono (by decide)) (by rfl) T.m__law_purse T.F_law_purse.kp (b_law_purse T) .nil pass0 (pa_cons (pv 0) (pa_cons (pv 1) pa_nil))))
      (pss_cons (ps_set (i := 3) sc_law.nd rfl (Or.inl rfl) (pe_ix ix_list (pe_lst (pa_cons pe_int (pa_cons pe_int (pa_cons pe_int pa_nil)))) (pe_call (ok_law_draw T) (hr.mono (by decide)) (by rfl) T.m__law_draw T.F_law_draw.kp (b_law_draw T) .nil pass0 (pa_cons (pv 2) (pa_cons pe_int pa_nil))) (fun _ _ => rfl)))
      (pss_cons (ps_par (i := 4) (j := 5) rfl sc_law.nd rfl rfl (by decide) rfl rfl (pa_cons (pe_op op_add pe_int (pe_call (ok_law_draw T) (hr.mono (by decide)) (by rfl) T.m__law_draw T.F_law_draw.kp (b_law_draw T) .nil pass0 (pa_cons (pv 2) (pa_cons (pv 3) pa_nil)))) (pa_cons (pe_op op_add pe_int (pe_call (ok_law_draw T) (hr.mono (by decide)) (by rfl) T.m__law_draw T.F_law_draw.kp (b_law_draw T) .nil pass0 (pa_cons (pv 2) (pa_cons (pv 3) pa_nil)))) pa_nil)) (by rfl))
      (pss_cons (ps_set (i := 6) sc_law.nd rfl (Or.inl rfl) (pe_call (ok_law_draw T) (hr.mono (by decide)) (by rfl) T.m__law_draw T.F_law_draw.kp (b_law_draw T) .nil pass0 (pa_cons (pv 2) (pa_cons (pe_op op_mulW (pv 4) (pv 5)) pa_nil))))
      (pss_cons (ps_for PassesOwn.never rfl (pi_list (pe_lst (pa_cons pe_int (pa_cons (pe_un un_neg pe_int) (pa_cons pe_non (pa_cons pe_bl (pa_cons pe_bl (pa_cons pe_str (pa_cons (pe_lst (pa_cons pe_int pa_nil)) (pa_cons (pe_tup (pa_cons pe_int pa_nil)) (pa_cons pe_dnewK (pa_cons (pe_lst pa_nil) (pa_cons pe_str (pa_cons (pe_op op_sub pe_int (pe_op op_powW pe_int pe_int)) pa_nil)))))))))))))) (pg_name (i := 7) sc_law.nd rfl (Or.inl rfl)) (pss_cons (ps_if (pt_not (pt_val (pe_callG (ok_law_firsts_right T) gd (hr.mono (by decide)) (by rfl) T.m__law_firsts_right T.F_law_firsts_right.kp (b_law_firsts_right T) .nil pass0 (pa_cons (pv 2) (pa_cons (pv 7) (pa_cons (pv 4) (pa_cons (pv 5) (pa_cons (pv 6) pa_nil)))))))) (pss_one (ps_ret pe_bl)) pss_nil)
      (pss_cons (ps_for PassesOwn.never rfl (pi_range1 (by rfl) T.n_range (pa_cons pe_int pa_nil)) (pg_name (i := 8) sc_law.nd rfl (Or.inl rfl)) (pss_cons (ps_for PassesOwn.never rfl (pi_list (pe_lst (pa_cons (pe_tup (pa_cons (pv 7) (pa_cons (pv 7) (pa_cons (pv 7) (pa_cons (pv 7) pa_nil))))) (pa_cons (pe_tup (pa_cons (pv 7) (pa_cons (pv 5) (pa_cons (pv 6) (pa_cons pe_int pa_nil))))) (pa_cons (pe_tup (pa_cons (pv 4) (pa_cons (pv 7) (pa_cons (pv 7) (pa_cons (pv 7) pa_nil))))) (pa_cons (pe_tup (pa_cons (pv 4) (pa_cons (pv 7) (pa_cons (pv 6) (pa_cons pe_int pa_nil))))) pa_nil)))))) (pg_name (i := 9) sc_law.nd rfl (Or.inl rfl)) (pss_one (ps_if (pt_not (pt_val (pe_callG (ok_law_is T) gd (hr.mono (by decide)) (by rfl) T.m__law_is T.F_law_is.kp (b_law_is T) .nil pass0 (pa_cons (pe_call (ok_law_called T) (hr.mono (by decide)) (by rfl) T.m__law_called T.F_law_called.kp (b_law_called T) .nil pass0 (pa_cons (pv 8) (pa_cons (pv 9) pa_nil))) (pa_cons (pv 7) pa_nil))))) (pss_one (ps_ret pe_bl)) pss_nil)))
      (pss_one (ps_if (PW.pt (pw_and (pt_cmpR op_ne (pv 8) pe_int (nomark _)) (pw_and (pt_cmpR (op_ni01 hr.units) (pv 7) (pe_tup (pa_cons pe_int (pa_cons pe_bl pa_nil))) (by rfl)) (pw_and1 (pt_not (pt_val (pe_callG (ok_law_is T) gd (hr.mono (by decide)) (by rfl) T.m__law_is T.F_law_is.kp (b_law_is T) .nil pass0 (pa_cons (pe_call (ok_law_called T) (hr.mono (by decide)) (by rfl) T.m__law_called T.F_law_called.kp (b_law_called T) .nil pass0 (pa_cons (pv 8) (pa_cons (pe_tup (pa_cons (pv 4) (pa_cons (pv 5) (pa_cons (pv 7) (pa_cons (pv 7) pa_nil))))) pa_nil))) (pa_cons (pv 7) pa_nil))))))))) (pss_one (ps_ret pe_bl)) pss_nil))))
      (pss_one (ps_if (PW.pt (pw_and (pt_cmpR (op_ni01 hr.units) (pv 7) (pe_tup (pa_cons pe_int (pa_cons pe_bl pa_nil))) (by rfl)) (pw_and1 (pt_not (pt_val (pe_callG (ok_law_is T) gd (hr.mono (by decide)) (by rfl) T.m__law_is T.F_law_is.kp (b_law_is T) .nil pass0 (pa_cons (pe_call (ok_law_called T) (hr.mono (by decide)) (by rfl) T.m__law_called T.F_law_called.kp (b_law_called T) .nil pass0 (pa_cons pe_int (pa_cons (pe_tup (pa_cons (pv 4) (pa_cons (pv 5) (pa_cons (pv 6) (pa_cons (pv 7) pa_nil))))) pa_nil))) (pa_cons (pv 7) pa_nil)))))))) (pss_one (ps_ret pe_bl)) pss_nil)))))
      (pss_cons (ps_for PassesOwn.never rfl (pi_list (pe_lst (pa_cons (pe_op op_mulW (pv 4) (pv 5)) (pa_cons (pe_op op_add (pe_op op_mulW (pv 4) (pv 5)) pe_int) (pa_cons (pe_op op_powW pe_int pe_int) (pa_cons pe_bl pa_nil)))))) (pg_name (i := 10) sc_law.nd rfl (Or.inl rfl)) (pss_one (ps_for PassesOwn.never rfl (pi_tup (pe_tup (pa_cons pe_int (pa_cons pe_int (pa_cons pe_int pa_nil))))) (pg_name (i := 8) sc_law.nd rfl (Or.inl rfl)) (pss_one (ps_if (pt_not (pt_val (pe_callG (ok_law_is T) gd (hr.mono (by decide)) (by rfl) T.m__law_is T.F_law_is.kp (b_law_is T) .nil pass0 (pa_cons (pe_call (ok_law_called T) (hr.mono (by decide)) (by rfl) T.m__law_called T.F_law_called.kp (b_law_called T) .nil pass0 (pa_cons (pv 8) (pa_cons (pe_tup (pa_cons (pv 4) (pa_cons (pv 5) (pa_cons (pv 10) (pa_cons pe_non pa_nil))))) pa_nil))) (pa_cons (pv 10) pa_nil))))) (pss_one (ps_ret pe_bl)) pss_nil)))))
      (pss_cons (ps_if (pt_not (pt_val (pe_callG (ok_law_is T) gd (hr.mono (by decide)) (by rfl) T.m__law_is T.F_law_is.kp (b_law_is T) .nil pass0 (pa_cons (pe_call (ok_law_called T) (hr.mono (by decide)) (by rfl) T.m__law_called T.F_law_called.kp (b_law_called T) .nil pass0 (pa_cons pe_int (pa_cons (pe_tup (pa_cons (pv 4) (pa_cons (pv 5) (pa_cons pe_int (pa_cons pe_bl pa_nil))))) pa_nil))) (pa_cons pe_bl pa_nil))))) (pss_one (ps_ret pe_bl)) pss_nil)
      (pss_cons (ps_for PassesOwn.never rfl (pi_list (pe_lst (pa_cons (pe_tup (pa_cons pe_int (pa_cons pe_int (pa_cons pe_int (pa_cons pe_int pa_nil))))) (pa_cons (pe_tup (pa_cons pe_int (pa_cons pe_int (pa_cons pe_int (pa_cons pe_int pa_nil))))) (pa_cons (pe_tup (pa_cons pe_int (pa_cons pe_int (pa_cons pe_int (pa_cons pe_int pa_nil))))) pa_nil))))) (pg_name (i := 9) sc_law.nd rfl (Or.inl rfl)) (pss_one (ps_for PassesOwn.never rfl (pi_range1 (by rfl) T.n_range (pa_cons pe_int pa_nil)) (pg_name (i := 8) sc_law.nd rfl (Or.inl rfl)) (pss_one (ps_if (pt_cmpR op_notN1 (pe_call (ok_law_called T) (hr.mono (by decide)) (by rfl) T.m__law_called T.F_law_called.kp (b_law_called T) .nil pass0 (pa_cons (pv 8) (pa_cons (pv 9) pa_nil))) pe_non (nomark _)) (pss_one (ps_ret pe_bl)) pss_nil)))))
      (pss_one (ps_for PassesOwn.never rfl (pi_list (pe_lst (pa_cons pe_int (pa_cons (pv 6) (pa_cons (pe_op op_sub (pe_op op_mulW (pv 4) (pv 5)) pe_int) pa_nil))))) (pg_name (i := 11) sc_law.nd rfl (Or.inl rfl)) (pss_one (ps_for PassesOwn.never rfl (pi_tup (pe_ifExp (pt_cmpR op_gt (pv 11) pe_int (nomark _)) (pe_tup (pa_cons pe_int (pa_cons pe_int (pa_cons pe_int pa_nil)))) (pe_tup (pa_cons pe_int (pa_cons pe_int (pa_cons pe_int (pa_cons pe_int pa_nil))))))) (pg_name (i := 8) sc_law.nd rfl (Or.inl rfl)) (pss_one (ps_if (pt_cmpR op_notN1 (pe_call (ok_law_called T) (hr.mono (by decide)) (by rfl) T.m__law_called T.F_law_called.kp (b_law_called T) .nil pass0 (pa_cons (pv 8) (pa_cons (pe_tup (pa_cons (pv 4) (pa_cons (pv 5) (pa_cons (pv 11) (pa_cons (pe_call (ok_law_draw T) (hr.mono (by decide)) (by rfl) T.m__law_draw T.F_law_draw.kp (b_law_draw T) .nil pass0 (pa_cons (pv 2) (pa_cons (pe_op op_powW pe_int pe_int) pa_nil))) pa_nil))))) pa_nil))) pe_non (nomark _)) (pss_one (ps_ret pe_bl)) pss_nil)))))))))))))))
      (pss_one (ps_ret pe_bl))), rd_law T vs H Q E h⟩
end
end CP

namespace CP
open PySem L2
theorem dfl1 {K : PySem.W.Frag} {T : Addr} {oc : Value} {od : Option Addr} {its : Array Value} {n : Nat} {sl : Array (Option Value)} {dvs : List V} (hd : dvs ≠ []) (hl : K.lookup T = some ⟨oc, od, .seq its n, sl⟩) (hr : _root_.He.relAll dvs its.toList = true) : DflV K (.ref T) dvs := .inr ⟨hd, T, _, its.toList, n, rfl, hl, by simp, _root_.He.relAll_ok hr⟩
theorem all_mk {w : World} {l : PySem.W.OpenLaw} {K : PySem.W.Frag} {h : Heap} {mg : Str → Option Value} {fa : Addr} (X : K.In h) (G : h.Ns mainGlobals mg) (hfa : mg "law" = some (.ref fa))
    {fInvalidNumber___init : Addr} {odInvalidNumber___init anInvalidNumber___init : Option Addr} {slInvalidNumber___init : Array (Option Value)} {ocInvalidNumber___init kVInvalidNumber___init dcInvalidNumber___init pmInvalidNumber___init cdInvalidNumber___init ctInvalidNumber___init : Value} {dVInvalidNumber___init : Value}
    {fis_whole : Addr} {odis_whole anis_whole : Option Addr} {slis_whole : Array (Option Value)} {ocis_whole kVis_whole dcis_whole pmis_whole cdis_whole ctis_whole : Value}
    {fis_count : Addr} {odis_count anis_count : Option Addr} {slis_count : Array (Option Value)} {ocis_count kVis_count dcis_count pmis_count cdis_count ctis_count : Value}
    {fcheck_rows : Addr} {odcheck_rows ancheck_rows : Option Addr} {slcheck_rows : Array (Option Value)} {occheck_rows kVcheck_rows dccheck_rows pmcheck_rows cdcheck_rows ctcheck_rows : Value}
    {fcheck_place : Addr} {odcheck_place ancheck_place : Option Addr} {slcheck_place : Array (Option Value)} {occheck_place kVcheck_place dccheck_place pmcheck_place cdcheck_place ctcheck_place : Value}
    {fturned : Addr} {odturned anturned : Option Addr} {slturned : Array (Option Value)} {octurned kVturned dcturned pmturned cdturned ctturned : Value} {dVturned : Value}
    {fpower : Addr} {odpower anpower : Option Addr} {slpower : Array (Option Value)} {ocpower kVpower dcpower pmpower cdpower ctpower : Value}
    {fdivisor : Addr} {oddivisor andivisor : Option Addr} {sldivisor : Array (Option Value)} {ocdivisor kVdivisor dcdivisor pmdivisor cddivisor ctdivisor : Value}
    {fprimes : Addr} {odprimes anprimes : Option Addr} {slprimes : Array (Option Value)} {ocprimes kVprimes dcprimes pmprimes cdprimes ctprimes : Value}
    {funits : Addr} {odunits anunits : Option Addr} {slunits : Array (Option Value)} {ocunits kVunits dcunits pmunits cdunits ctunits : Value}
    {fparts_of : Addr} {odparts_of anparts_of : Option Addr} {slparts_of : Array (Option Value)} {ocparts_of kVparts_of dcparts_of pmparts_of cdparts_of ctparts_of : Value}
    {forder : Addr} {odorder anorder : Option Addr} {slorder : Array (Option Value)} {ocorder kVorder dcorder pmorder cdorder ctorder : Value}
    {fring_length : Addr} {odring_length anring_length : Option Addr} {slring_length : Array (Option Value)} {ocring_length kVring_length dcring_length pmring_length cdring_length ctring_length : Value}
    {fdivisors : Addr} {oddivisors andivisors : Option Addr} {sldivisors : Array (Option Value)} {ocdivisors kVdivisors dcdivisors pmdivisors cddivisors ctdivisors : Value}
    {frings : Addr} {odrings anrings : Option Addr} {slrings : Array (Option Value)} {ocrings kVrings dcrings pmrings cdrings ctrings : Value}
    {flaw_purse : Addr} {odlaw_purse anlaw_purse : Option Addr} {sllaw_purse : Array (Option Value)} {oclaw_purse kVlaw_purse dclaw_purse pmlaw_purse cdlaw_purse ctlaw_purse : Value}
    {flaw_mixed : Addr} {odlaw_mixed anlaw_mixed : Option Addr} {sllaw_mixed : Array (Option Value)} {oclaw_mixed kVlaw_mixed dclaw_mixed pmlaw_mixed cdlaw_mixed ctlaw_mixed : Value}
    {flaw_draw : Addr} {odlaw_draw anlaw_draw : Option Addr} {sllaw_draw : Array (Option Value)} {oclaw_draw kVlaw_draw dclaw_draw pmlaw_draw cdlaw_draw ctlaw_draw : Value}
    {flaw_called : Addr} {odlaw_called anlaw_called : Option Addr} {sllaw_called : Array (Option Value)} {oclaw_called kVlaw_called dclaw_called pmlaw_called cdlaw_called ctlaw_called : Value}
    {flaw_is : Addr} {odlaw_is anlaw_is : Option Addr} {sllaw_is : Array (Option Value)} {oclaw_is kVlaw_is dclaw_is pmlaw_is cdlaw_is ctlaw_is : Value}
    {flaw_firsts_right : Addr} {odlaw_firsts_right anlaw_firsts_right : Option Addr} {sllaw_firsts_right : Array (Option Value)} {oclaw_firsts_right kVlaw_firsts_right dclaw_firsts_right pmlaw_firsts_right cdlaw_firsts_right ctlaw_firsts_right : Value}
    {flaw : Addr} {odlaw anlaw : Option Addr} {sllaw : Array (Option Value)} {oclaw kVlaw dclaw pmlaw cdlaw ctlaw : Value}
    {CCellError : Addr}
    {CInvalidNumber : Addr}
    {q1InvalidNumber q2InvalidNumber : Str} {q3InvalidNumber : Addr} {q4InvalidNumber q5InvalidNumber : List Value} {q6InvalidNumber : List Str} {q7InvalidNumber : List Value} {q8InvalidNumber : Bool} {q9InvalidNumber : Option Bool} {qaInvalidNumber : Option Addr} {qbInvalidNumber qcInvalidNumber qdInvalidNumber qeInvalidNumber qfInvalidNumber : Option Value}
    (aInvalidNumber___init : PySem.W.findIn K (.ref CInvalidNumber) "__init__" = some (some (.ref fInvalidNumber___init)))
    (lInvalidNumber___init : K.lookup fInvalidNumber___init = some ⟨ocInvalidNumber___init, odInvalidNumber___init, .func (PySem.W.fnOf "__init__" "InvalidNumber.__init__" (defArgs s_InvalidNumber___init) (defBody s_InvalidNumber___init) (defScope s_InvalidNumber___init) dVInvalidNumber___init kVInvalidNumber___init dcInvalidNumber___init pmInvalidNumber___init anInvalidNumber___init cdInvalidNumber___init ctInvalidNumber___init), slInvalidNumber___init⟩) (dInvalidNumber___init : DflV K dVInvalidNumber___init [.non])
    (cInvalidNumber___init : PySem.W.codeIn K cdInvalidNumber___init "InvalidNumber.__init__" = true) (kInvalidNumber___init : PySem.W.keepIn K (.ref fInvalidNumber___init) = true)
    (ais_whole : PySem.W.nsIn K mainGlobals "is_whole" = some (some (.ref fis_whole)))
    (lis_whole : K.lookup fis_whole = some ⟨ocis_whole, odis_whole, .func (PySem.W.fnOf "is_whole" "is_whole" (defArgs s_is_whole) (defBody s_is_whole) (defScope s_is_whole) .none kVis_whole dcis_whole pmis_whole anis_whole cdis_whole ctis_whole), slis_whole⟩)
    (cis_whole : PySem.W.codeIn K cdis_whole "is_whole" = true) (kis_whole : PySem.W.keepIn K (.ref fis_whole) = true)
    (ais_count : PySem.W.nsIn K mainGlobals "is_count" = some (some (.ref fis_count)))
    (lis_count : K.lookup fis_count = some ⟨ocis_count, odis_count, .func (PySem.W.fnOf "is_count" "is_count" (defArgs s_is_count) (defBody s_is_count) (defScope s_is_count) .none kVis_count dcis_count pmis_count anis_count cdis_count ctis_count), slis_count⟩)
    (cis_count : PySem.W.codeIn K cdis_count "is_count" = true) (kis_count : PySem.W.keepIn K (.ref fis_count) = true)
    (acheck_rows : PySem.W.nsIn K mainGlobals "check_rows" = some (some (.ref fcheck_rows)))
    (lcheck_rows : K.lookup fcheck_rows = some ⟨occheck_rows, odcheck_rows, .func (PySem.W.fnOf "check_rows" "check_rows" (defArgs s_check_rows) (defBody s_check_rows) (defScope s_check_rows) .none kVcheck_rows dccheck_rows pmcheck_rows ancheck_rows cdcheck_rows ctcheck_rows), slcheck_rows⟩)
    (ccheck_rows : PySem.W.codeIn K cdcheck_rows "check_rows" = true) (kcheck_rows : PySem.W.keepIn K (.ref fcheck_rows) = true)
    (acheck_place : PySem.W.nsIn K mainGlobals "check_place" = some (some (.ref fcheck_place)))
    (lcheck_place : K.lookup fcheck_place = some ⟨occheck_place, odcheck_place, .func (PySem.W.fnOf "check_place" "check_place" (defArgs s_check_place) (defBody s_check_place) (defScope s_check_place) .none kVcheck_place dccheck_place pmcheck_place ancheck_place cdcheck_place ctcheck_place), slcheck_place⟩)
    (ccheck_place : PySem.W.codeIn K cdcheck_place "check_place" = true) (kcheck_place : PySem.W.keepIn K (.ref fcheck_place) = true)
    (aturned : PySem.W.nsIn K mainGlobals "turned" = some (some (.ref fturned)))
    (lturned : K.lookup fturned = some ⟨octurned, odturned, .func (PySem.W.fnOf "turned" "turned" (defArgs s_turned) (defBody s_turned) (defScope s_turned) dVturned kVturned dcturned pmturned anturned cdturned ctturned), slturned⟩) (dturned : DflV K dVturned [.int 1])
    (cturned : PySem.W.codeIn K cdturned "turned" = true) (kturned : PySem.W.keepIn K (.ref fturned) = true)
    (apower : PySem.W.nsIn K mainGlobals "power" = some (some (.ref fpower)))
    (lpower : K.lookup fpower = some ⟨ocpower, odpower, .func (PySem.W.fnOf "power" "power" (defArgs s_power) (defBody s_power) (defScope s_power) .none kVpower dcpower pmpower anpower cdpower ctpower), slpower⟩)
    (cpower : PySem.W.codeIn K cdpower "power" = true) (kpower : PySem.W.keepIn K (.ref fpower) = true)
    (adivisor : PySem.W.nsIn K mainGlobals "divisor" = some (some (.ref fdivisor)))
    (ldivisor : K.lookup fdivisor = some ⟨ocdivisor, oddivisor, .func (PySem.W.fnOf "divisor" "divisor" (defArgs s_divisor) (defBody s_divisor) (defScope s_divisor) .none kVdivisor dcdivisor pmdivisor andivisor cddivisor ctdivisor), sldivisor⟩)
    (cdivisor : PySem.W.codeIn K cddivisor "divisor" = true) (kdivisor : PySem.W.keepIn K (.ref fdivisor) = true)
    (aprimes : PySem.W.nsIn K mainGlobals "primes" = some (some (.ref fprimes)))
    (lprimes : K.lookup fprimes = some ⟨ocprimes, odprimes, .func (PySem.W.fnOf "primes" "primes" (defArgs s_primes) (defBody s_primes) (defScope s_primes) .none kVprimes dcprimes pmprimes anprimes cdprimes ctprimes), slprimes⟩)
    (cprimes : PySem.W.codeIn K cdprimes "primes" = true) (kprimes : PySem.W.keepIn K (.ref fprimes) = true)
    (aunits : PySem.W.nsIn K mainGlobals "units" = some (some (.ref funits)))
    (lunits : K.lookup funits = some ⟨ocunits, odunits, .func (PySem.W.fnOf "units" "units" (defArgs s_units) (defBody s_units) (defScope s_units) .none kVunits dcunits pmunits anunits cdunits ctunits), slunits⟩)
    (cunits : PySem.W.codeIn K cdunits "units" = true) (kunits : PySem.W.keepIn K (.ref funits) = true)
    (aparts_of : PySem.W.nsIn K mainGlobals "parts_of" = some (some (.ref fparts_of)))
    (lparts_of : K.lookup fparts_of = some ⟨ocparts_of, odparts_of, .func (PySem.W.fnOf "parts_of" "parts_of" (defArgs s_parts_of) (defBody s_parts_of) (defScope s_parts_of) .none kVparts_of dcparts_of pmparts_of anparts_of cdparts_of ctparts_of), slparts_of⟩)
    (cparts_of : PySem.W.codeIn K cdparts_of "parts_of" = true) (kparts_of : PySem.W.keepIn K (.ref fparts_of) = true)
    (aorder : PySem.W.nsIn K mainGlobals "order" = some (some (.ref forder)))
    (lorder : K.lookup forder = some ⟨ocorder, odorder, .func (PySem.W.fnOf "order" "order" (defArgs s_order) (defBody s_order) (defScope s_order) .none kVorder dcorder pmorder anorder cdorder ctorder), slorder⟩)
    (corder : PySem.W.codeIn K cdorder "order" = true) (korder : PySem.W.keepIn K (.ref forder) = true)
    (aring_length : PySem.W.nsIn K mainGlobals "ring_length" = some (some (.ref fring_length)))
    (lring_length : K.lookup fring_length = some ⟨ocring_length, odring_length, .func (PySem.W.fnOf "ring_length" "ring_length" (defArgs s_ring_length) (defBody s_ring_length) (defScope s_ring_length) .none kVring_length dcring_length pmring_length anring_length cdring_length ctring_length), slring_length⟩)
    (cring_length : PySem.W.codeIn K cdring_length "ring_length" = true) (kring_length : PySem.W.keepIn K (.ref fring_length) = true)
    (adivisors : PySem.W.nsIn K mainGlobals "divisors" = some (some (.ref fdivisors)))
    (ldivisors : K.lookup fdivisors = some ⟨ocdivisors, oddivisors, .func (PySem.W.fnOf "divisors" "divisors" (defArgs s_divisors) (defBody s_divisors) (defScope s_divisors) .none kVdivisors dcdivisors pmdivisors andivisors cddivisors ctdivisors), sldivisors⟩)
    (cdivisors : PySem.W.codeIn K cddivisors "divisors" = true) (kdivisors : PySem.W.keepIn K (.ref fdivisors) = true)
    (arings : PySem.W.nsIn K mainGlobals "rings" = some (some (.ref frings)))
    (lrings : K.lookup frings = some ⟨ocrings, odrings, .func (PySem.W.fnOf "rings" "rings" (defArgs s_rings) (defBody s_rings) (defScope s_rings) .none kVrings dcrings pmrings anrings cdrings ctrings), slrings⟩)
    (crings : PySem.W.codeIn K cdrings "rings" = true) (krings : PySem.W.keepIn K (.ref frings) = true)
    (alaw_purse : PySem.W.nsIn K mainGlobals "_law_purse" = some (some (.ref flaw_purse)))
    (llaw_purse : K.lookup flaw_purse = some ⟨oclaw_purse, odlaw_purse, .func (PySem.W.fnOf "_law_purse" "_law_purse" (defArgs s_law_purse) (defBody s_law_purse) (defScope s_law_purse) .none kVlaw_purse dclaw_purse pmlaw_purse anlaw_purse cdlaw_purse ctlaw_purse), sllaw_purse⟩)
    (claw_purse : PySem.W.codeIn K cdlaw_purse "_law_purse" = true) (klaw_purse : PySem.W.keepIn K (.ref flaw_purse) = true)
    (alaw_mixed : PySem.W.nsIn K mainGlobals "_law_mixed" = some (some (.ref flaw_mixed)))
    (llaw_mixed : K.lookup flaw_mixed = some ⟨oclaw_mixed, odlaw_mixed, .func (PySem.W.fnOf "_law_mixed" "_law_mixed" (defArgs s_law_mixed) (defBody s_law_mixed) (defScope s_law_mixed) .none kVlaw_mixed dclaw_mixed pmlaw_mixed anlaw_mixed cdlaw_mixed ctlaw_mixed), sllaw_mixed⟩)
    (claw_mixed : PySem.W.codeIn K cdlaw_mixed "_law_mixed" = true) (klaw_mixed : PySem.W.keepIn K (.ref flaw_mixed) = true)
    (alaw_draw : PySem.W.nsIn K mainGlobals "_law_draw" = some (some (.ref flaw_draw)))
    (llaw_draw : K.lookup flaw_draw = some ⟨oclaw_draw, odlaw_draw, .func (PySem.W.fnOf "_law_draw" "_law_draw" (defArgs s_law_draw) (defBody s_law_draw) (defScope s_law_draw) .none kVlaw_draw dclaw_draw pmlaw_draw anlaw_draw cdlaw_draw ctlaw_draw), sllaw_draw⟩)
    (claw_draw : PySem.W.codeIn K cdlaw_draw "_law_draw" = true) (klaw_draw : PySem.W.keepIn K (.ref flaw_draw) = true)
    (alaw_called : PySem.W.nsIn K mainGlobals "_law_called" = some (some (.ref flaw_called)))
    (llaw_called : K.lookup flaw_called = some ⟨oclaw_called, odlaw_called, .func (PySem.W.fnOf "_law_called" "_law_called" (defArgs s_law_called) (defBody s_law_called) (defScope s_law_called) .none kVlaw_called dclaw_called pmlaw_called anlaw_called cdlaw_called ctlaw_called), sllaw_called⟩)
    (claw_called : PySem.W.codeIn K cdlaw_called "_law_called" = true) (klaw_called : PySem.W.keepIn K (.ref flaw_called) = true)
    (alaw_is : PySem.W.nsIn K mainGlobals "_law_is" = some (some (.ref flaw_is)))
    (llaw_is : K.lookup flaw_is = some ⟨oclaw_is, odlaw_is, .func (PySem.W.fnOf "_law_is" "_law_is" (defArgs s_law_is) (defBody s_law_is) (defScope s_law_is) .none kVlaw_is dclaw_is pmlaw_is anlaw_is cdlaw_is ctlaw_is), sllaw_is⟩)
    (claw_is : PySem.W.codeIn K cdlaw_is "_law_is" = true) (klaw_is : PySem.W.keepIn K (.ref flaw_is) = true)
    (alaw_firsts_right : PySem.W.nsIn K mainGlobals "_law_firsts_right" = some (some (.ref flaw_firsts_right)))
    (llaw_firsts_right : K.lookup flaw_firsts_right = some ⟨oclaw_firsts_right, odlaw_firsts_right, .func (PySem.W.fnOf "_law_firsts_right" "_law_firsts_right" (defArgs s_law_firsts_right) (defBody s_law_firsts_right) (defScope s_law_firsts_right) .none kVlaw_firsts_right dclaw_firsts_right pmlaw_firsts_right anlaw_firsts_right cdlaw_firsts_right ctlaw_firsts_right), sllaw_firsts_right⟩)
    (claw_firsts_right : PySem.W.codeIn K cdlaw_firsts_right "_law_firsts_right" = true) (klaw_firsts_right : PySem.W.keepIn K (.ref flaw_firsts_right) = true)
    (alaw : PySem.W.nsIn K mainGlobals "law" = some (some (.ref flaw)))
    (llaw : K.lookup flaw = some ⟨oclaw, odlaw, .func (PySem.W.fnOf "law" "law" (defArgs s_law) (defBody s_law) (defScope s_law) .none kVlaw dclaw pmlaw anlaw cdlaw ctlaw), sllaw⟩)
    (claw : PySem.W.codeIn K cdlaw "law" = true) (klaw : PySem.W.keepIn K (.ref flaw) = true)
    (aCCellError : PySem.W.nsIn K mainGlobals "CellError" = some (some (.ref CCellError)))
    (gaCellError : PySem.W.findIn K (.ref CCellError) "__getattribute__" = some (some (.builtin "BaseException.__getattribute__")))
    (gtCellError : PySem.W.findIn K (.ref CCellError) "__getattr__" = some none)
    (xsCellError : PySem.W.subIn K (.ref CCellError) (.type "BaseException") = some true)
    (hdCellError : PySem.W.hasDictIn K CCellError = true)
    (caCellError : PySem.W.findIn K (.ref CCellError) "__class__" = some (some (.builtin "object.__class__")))
    (cbCellError : PySem.W.specialIn K (.builtin "object.__class__") "__get__" = some (some (.builtin "getset_descriptor.__get__")))
    (ccCellError : PySem.W.takesIn K (.builtin "object.__class__") = some true)
    (cdCellError : PySem.W.mroIn K CCellError (.type "object") = some true)
    (exCellError : PySem.W.excIn K CCellError [.type "ValueError", .type "Exception", .type "BaseException", .type "object"] "ValueError.__new__" = true)
    (kcCellError : PySem.W.keepIn K (.ref CCellError) = true)
    (tyCellError : PySem.W.typeIn K (.ref CCellError) = some (.type "type"))
    (rdCellError : PySem.W.readsIn K CCellError (.type "type") = true)
    (rgCellError : PySem.W.specialIn K (.ref CCellError) "__getattribute__" = some (some (.builtin "type.__getattribute__")))
    (viCellError : PySem.W.findCls K (.ref CCellError) (.type "type") "__init__" = some (.val (.builtin "ValueError.__init__")))
    (xtTab : exmTab K [CInvalidNumber] CCellError = true)
    (knTab : kinTab K [CInvalidNumber, CCellError] = true)
    (aCInvalidNumber : PySem.W.nsIn K mainGlobals "InvalidNumber" = some (some (.ref CInvalidNumber)))
    (gaInvalidNumber : PySem.W.findIn K (.ref CInvalidNumber) "__getattribute__" = some (some (.builtin "BaseException.__getattribute__")))
    (gtInvalidNumber : PySem.W.findIn K (.ref CInvalidNumber) "__getattr__" = some none)
    (xsInvalidNumber : PySem.W.subIn K (.ref CInvalidNumber) (.type "BaseException") = some true)
    (hdInvalidNumber : PySem.W.hasDictIn K CInvalidNumber = true)
    (caInvalidNumber : PySem.W.findIn K (.ref CInvalidNumber) "__class__" = some (some (.builtin "object.__class__")))
    (cbInvalidNumber : PySem.W.specialIn K (.builtin "object.__class__") "__get__" = some (some (.builtin "getset_descriptor.__get__")))
    (ccInvalidNumber : PySem.W.takesIn K (.builtin "object.__class__") = some true)
    (cdInvalidNumber : PySem.W.mroIn K CInvalidNumber (.type "object") = some true)
    (lkInvalidNumber : K.lookup CInvalidNumber = some (excClassObj q1InvalidNumber q2InvalidNumber CInvalidNumber q3InvalidNumber q4InvalidNumber q5InvalidNumber true q6InvalidNumber q7InvalidNumber q8InvalidNumber q9InvalidNumber qaInvalidNumber qbInvalidNumber qcInvalidNumber qdInvalidNumber qeInvalidNumber qfInvalidNumber "ValueError.__new__"))
    (vbInvalidNumber : PySem.HandSPX.refsVE q5InvalidNumber = true)
    (saInvalidNumber : PySem.W.findIn K (.ref CInvalidNumber) "__setattr__" = some (some (.builtin "object.__setattr__")))
    (tyInvalidNumber : PySem.W.typeIn K (.ref CInvalidNumber) = some (.type "type"))
    (kcInvalidNumber : PySem.W.keepIn K (.ref CInvalidNumber) = true)
    (fnInvalidNumber : PySem.W.typeIn K (.ref fInvalidNumber___init) = some (.type "function"))
    (noInvalidNumber : PySem.W.findIn K (.ref CInvalidNumber) "value" = some none)
    (ktTab : kitTab K [CInvalidNumber] CCellError = true)
    (nbool : PySem.W.nsIn K mainGlobals "bool" = some none)
    (nint : PySem.W.nsIn K mainGlobals "int" = some none)
    (nisinstance : PySem.W.nsIn K mainGlobals "isinstance" = some none)
    (nlen : PySem.W.nsIn K mainGlobals "len" = some none)
    (nlist : PySem.W.nsIn K mainGlobals "list" = some none)
    (nmax : PySem.W.nsIn K mainGlobals "max" = some none)
    (nrange : PySem.W.nsIn K mainGlobals "range" = some none)
    (nrepr : PySem.W.nsIn K mainGlobals "repr" = some none)
    (nset : PySem.W.nsIn K mainGlobals "set" = some none)
    (nsorted : PySem.W.nsIn K mainGlobals "sorted" = some none)
    (nsum : PySem.W.nsIn K mainGlobals "sum" = some none)
    : ∃ fd : FuncData, (∀ (s : Shared) (v : Value), BindsTo s fd ⟨[v], []⟩ [("_law_script", v)]) ∧ ∀ base : Heap, K.In base → base.Ns mainGlobals mg → FnG l.prog w K mg base CX0 7 fa fd ["_law_script"] (sp_top K) := by
  have e := hfa.symm.trans (PySem.W.mg_of X G alaw)
  cases e
  let T : Txt K mg := {
    a_InvalidNumber___init := fInvalidNumber___init, fd_InvalidNumber___init := _,
    F_InvalidNumber___init := ⟨⟨ocInvalidNumber___init, odInvalidNumber___init, dVInvalidNumber___init, kVInvalidNumber___init, dcInvalidNumber___init, pmInvalidNumber___init, anInvalidNumber___init, cdInvalidNumber___init, ctInvalidNumber___init, slInvalidNumber___init, rfl, lInvalidNumber___init, cInvalidNumber___init, dInvalidNumber___init, .inl rfl⟩, kInvalidNumber___init⟩,
    a_is_whole := fis_whole, fd_is_whole := _,
    F_is_whole := fun_mk (st := s_is_whole) lis_whole cis_whole kis_whole,
    m_is_whole := PySem.W.mg_of X G ais_whole,
    a_is_count := fis_count, fd_is_count := _,
    F_is_count := fun_mk (st := s_is_count) lis_count cis_count kis_count,
    m_is_count := PySem.W.mg_of X G ais_count,
    a_check_rows := fcheck_rows, fd_check_rows := _,
    F_check_rows := fun_mk (st := s_check_rows) lcheck_rows ccheck_rows kcheck_rows,
    m_check_rows := PySem.W.mg_of X G acheck_rows,
    a_check_place := fcheck_place, fd_check_place := _,
    F_check_place := fun_mk (st := s_check_place) lcheck_place ccheck_place kcheck_place,
    m_check_place := PySem.W.mg_of X G acheck_place,
    a_turned := fturned, fd_turned := _,
    F_turned := ⟨⟨octurned, odturned, dVturned, kVturned, dcturned, pmturned, anturned, cdturned, ctturned, slturned, rfl, lturned, cturned, dturned, .inl rfl⟩, kturned⟩,
    m_turned := PySem.W.mg_of X G aturned,
    a_power := fpower, fd_power := _,
    F_power := fun_mk (st := s_power) lpower cpower kpower,
    m_power := PySem.W.mg_of X G apower,
    a_divisor := fdivisor, fd_divisor := _,
    F_divisor := fun_mk (st := s_divisor) ldivisor cdivisor kdivisor,
    m_divisor := PySem.W.mg_of X G adivisor,
    a_primes := fprimes, fd_primes := _,
    F_primes := fun_mk (st := s_primes) lprimes cprimes kprimes,
    m_primes := PySem.W.mg_of X G aprimes,
    a_units := funits, fd_units := _,
    F_units := fun_mk (st := s_units) lunits cunits kunits,
    m_units := PySem.W.mg_of X G aunits,
    a_parts_of := fparts_of, fd_parts_of := _,
    F_parts_of := fun_mk (st := s_parts_of) lparts_of cparts_of kparts_of,
    m_parts_of := PySem.W.mg_of X G aparts_of,
    a_order := forder, fd_order := _,
    F_order := fun_mk (st := s_order) lorder corder korder,
    m_order := PySem.W.mg_of X G aorder,
    a_ring_length := fring_length, fd_ring_length := _,
    F_ring_length := fun_mk (st := s_ring_length) lring_length cring_length kring_length,
    m_ring_length := PySem.W.mg_of X G aring_length,
    a_divisors := fdivisors, fd_divisors := _,
    F_divisors := fun_mk (st := s_divisors) ldivisors cdivisors kdivisors,
    m_divisors := PySem.W.mg_of X G adivisors,
    a_rings := frings, fd_rings := _,
    F_rings := fun_mk (st := s_rings) lrings crings krings,
    m_rings := PySem.W.mg_of X G arings,
    a_law_purse := flaw_purse, fd_law_purse := _,
    F_law_purse := fun_mk (st := s_law_purse) llaw_purse claw_purse klaw_purse,
    m__law_purse := PySem.W.mg_of X G alaw_purse,
    a_law_mixed := flaw_mixed, fd_law_mixed := _,
    F_law_mixed := fun_mk (st := s_law_mixed) llaw_mixed claw_mixed klaw_mixed,
    m__law_mixed := PySem.W.mg_of X G alaw_mixed,
    a_law_draw := flaw_draw, fd_law_draw := _,
    F_law_draw := fun_mk (st := s_law_draw) llaw_draw claw_draw klaw_draw,
    m__law_draw := PySem.W.mg_of X G alaw_draw,
    a_law_called := flaw_called, fd_law_called := _,
    F_law_called := fun_mk (st := s_law_called) llaw_called claw_called klaw_called,
    m__law_called := PySem.W.mg_of X G alaw_called,
    a_law_is := flaw_is, fd_law_is := _,
    F_law_is := fun_mk (st := s_law_is) llaw_is claw_is klaw_is,
    m__law_is := PySem.W.mg_of X G alaw_is,
    a_law_firsts_right := flaw_firsts_right, fd_law_firsts_right := _,
    F_law_firsts_right := fun_mk (st := s_law_firsts_right) llaw_firsts_right claw_firsts_right klaw_firsts_right,
    m__law_firsts_right := PySem.W.mg_of X G alaw_firsts_right,
    a_law := fa, fd_law := _,
    F_law := fun_mk (st := s_law) llaw claw klaw,
    m_law := PySem.W.mg_of X G alaw,
    a_CellError := CCellError, m_CellError := PySem.W.mg_of X G aCCellError,
    x_CellError := exCellError, kx_CellError := kcCellError, ec_CellError := ⟨gaCellError, gtCellError, xsCellError, hdCellError, caCellError, cbCellError, ccCellError, cdCellError⟩,
    ty_CellError := tyCellError,
    cr_CellError := ⟨rdCellError, rgCellError⟩, vi_CellError := viCellError,
    xt := xtTab,
    kn := knTab,
    a_InvalidNumber := CInvalidNumber, m_InvalidNumber := PySem.W.mg_of X G aCInvalidNumber,
    e_InvalidNumber := ⟨⟨⟨_, _, _, _, _, _, _, _, _, _, _, _, _, _, _, lkInvalidNumber, vbInvalidNumber⟩, saInvalidNumber, xsInvalidNumber, tyInvalidNumber, kcInvalidNumber⟩, aInvalidNumber___init, fnInvalidNumber, ⟨gaInvalidNumber, gtInvalidNumber, xsInvalidNumber, hdInvalidNumber⟩, ⟨gaInvalidNumber, gtInvalidNumber, xsInvalidNumber, hdInvalidNumber, caInvalidNumber, cbInvalidNumber, ccInvalidNumber, cdInvalidNumber⟩, noInvalidNumber⟩,
    kt := ktTab,
    n_bool := PySem.W.mg_none_of X G nbool,
    n_int := PySem.W.mg_none_of X G nint,
    n_isinstance := PySem.W.mg_none_of X G nisinstance,
    n_len := PySem.W.mg_none_of X G nlen,
    n_list := PySem.W.mg_none_of X G nlist,
    n_max := PySem.W.mg_none_of X G nmax,
    n_range := PySem.W.mg_none_of X G nrange,
    n_repr := PySem.W.mg_none_of X G nrepr,
    n_set := PySem.W.mg_none_of X G nset,
    n_sorted := PySem.W.mg_none_of X G nsorted,
    n_sum := PySem.W.mg_none_of X G nsum }
  exact ⟨PySem.W.fnOf "law" "law" (defArgs s_law) (defBody s_law) (defScope s_law) .none kVlaw dclaw pmlaw anlaw cdlaw ctlaw, fun s v => .of_eq rfl, fun base _ _ => (ok_law T).imp fun vs H Q E z => sp_law_top T vs H Q E z⟩
theorem walk {l : PySem.W.OpenLaw} {q : Program} {loose : List Str} {XP : (Str → Option Value) → Heap → Prop} {YP : World → Heap → Prop} {d : DefRec} {K : Params → PySem.W.Frag} (hn : l.most = some 63) (hdf : d.params.defaults = [])
    (hY : ∀ (w : World) (h : Heap), YP w h → (K w.params).In h)
    (F : ∀ (w : World) (mg : Str → Option Value) (fa : Addr) (h : Heap), (K w.params).In h → h.Ns mainGlobals mg → mg d.name = some (.ref fa) →
      ∃ fd : FuncData, (∀ (s : Shared) (u : Value), BindsTo s fd ⟨[u], []⟩ [("_law_script", u)]) ∧ ∀ base : Heap, (K w.params).In base → base.Ns mainGlobals mg → FnG l.prog w (K w.params) mg base CX0 7 fa fd ["_law_script"] (sp_top (K w.params))) :
    PySem.W.WalkO q loose XP YP l.row.toRowW d [] (fun f vs => PySem.call f vs) :=
  CP.walk_G (n := 63) (k := 7) (x := "_law_script") (CX := fun _ => CX0) (sp := fun w => sp_top (K w.params)) hn (by decide) hdf ⟨rfl, by decide, by decide⟩ hY F (fun _ _ a ns hl _ hS => ⟨a, ns, rfl, hS, hl, fun _ => rfl⟩) fun _ _ _ _ _ z => z
end CP
open PySem PySem.W PyProof.Rows
set_option maxRecDepth 100000 in
set_option maxHeartbeats 0 in
theorem PySem.Challenge.cw_cellplaces_k70_rings_refused_holds : PySem.Challenge.rw_cellplaces_k70_rings_refused.Holds := by
  w_on; o_law; k_head; (case hw => w_witness2)
  k_fill
  refine CP.walk (l := PySem.Challenge.rw_cellplaces_k70_rings_refused) rfl rfl (fun w h Y => PySem.W.kIn_of Y) ?F
  case F =>
    intro w mg fa h KX G hmg
    refine' CP.all_mk KX G hmg ?aInvalidNumber___init ?lInvalidNumber___init ?dInvalidNumber___init ?cInvalidNumber___init ?kInvalidNumber___init ?ais_whole ?lis_whole ?cis_whole ?kis_whole ?ais_count ?lis_count ?cis_count ?kis_count ?acheck_rows ?lcheck_rows ?ccheck_rows ?kcheck_rows ?acheck_place ?lcheck_place ?ccheck_place ?kcheck_place ?aturned ?lturned ?dturned ?cturned ?kturned ?apower ?lpower ?cpower ?kpower ?adivisor ?ldivisor ?cdivisor ?kdivisor ?aprimes ?lprimes ?cprimes ?kprimes ?aunits ?lunits ?cunits ?kunits ?aparts_of ?lparts_of ?cparts_of ?kparts_of ?aorder ?lorder ?corder ?korder ?aring_length ?lring_length ?cring_length ?kring_length ?adivisors ?ldivisors ?cdivisors ?kdivisors ?arings ?lrings ?crings ?krings ?alaw_purse ?llaw_purse ?claw_purse ?klaw_purse ?alaw_mixed ?llaw_mixed ?claw_mixed ?klaw_mixed ?alaw_draw ?llaw_draw ?claw_draw ?klaw_draw ?alaw_called ?llaw_called ?claw_called ?klaw_called ?alaw_is ?llaw_is ?claw_is ?klaw_is ?alaw_firsts_right ?llaw_firsts_right ?claw_firsts_right ?klaw_firsts_right ?alaw ?llaw ?claw ?klaw ?aCCellError ?gaCellError ?gtCellError ?xsCellError ?hdCellError ?caCellError ?cbCellError ?ccCellError ?cdCellError ?exCellError ?kcCellError ?tyCellError ?rdCellError ?rgCellError ?viCellError ?xtTab ?knTab ?aCInvalidNumber ?gaInvalidNumber ?gtInvalidNumber ?xsInvalidNumber ?hdInvalidNumber ?caInvalidNumber ?cbInvalidNumber ?ccInvalidNumber ?cdInvalidNumber ?lkInvalidNumber ?vbInvalidNumber ?saInvalidNumber ?tyInvalidNumber ?kcInvalidNumber ?fnInvalidNumber ?noInvalidNumber ?ktTab ?nbool ?nint ?nisinstance ?nlen ?nlist ?nmax ?nrange ?nrepr ?nset ?nsorted ?nsum
    (case aCCellError => k_is)
    (case aCInvalidNumber => k_is)
    (case aInvalidNumber___init => k_is)
    (case lInvalidNumber___init => k_is)
    (case dInvalidNumber___init => refine' CP.dfl1 (List.cons_ne_nil _ _) ?zzl ?zzr; (case zzl => k_is); (case zzr => rfl))
    (case cInvalidNumber___init => k_is)
    (case kInvalidNumber___init => k_is)
    (case ais_whole => k_is)
    (case lis_whole => k_is)
    (case cis_whole => k_is)
    (case kis_whole => k_is)
    (case ais_count => k_is)
    (case lis_count => k_is)
    (case cis_count => k_is)
    (case kis_count => k_is)
    (case acheck_rows => k_is)
    (case lcheck_rows => k_is)
    (case ccheck_rows => k_is)
    (case kcheck_rows => k_is)
    (case acheck_place => k_is)
    (case lcheck_place => k_is)
    (case ccheck_place => k_is)
    (case kcheck_place => k_is)
    (case aturned => k_is)
    (case lturned => k_is)
    (case dturned => refine' CP.dfl1 (List.cons_ne_nil _ _) ?zzl ?zzr; (case zzl => k_is); (case zzr => rfl))
    (case cturned => k_is)
    (case kturned => k_is)
    (case apower => k_is)
    (case lpower => k_is)
    (case cpower => k_is)
    (case kpower => k_is)
    (case adivisor => k_is)
    (case ldivisor => k_is)
    (case cdivisor => k_is)
    (case kdivisor => k_is)
    (case aprimes => k_is)
    (case lprimes => k_is)
    (case cprimes => k_is)
    (case kprimes => k_is)
    (case aunits => k_is)
    (case lunits => k_is)
    (case cunits => k_is)
    (case kunits => k_is)
    (case aparts_of => k_is)
    (case lparts_of => k_is)
    (case cparts_of => k_is)
    (case kparts_of => k_is)
    (case aorder => k_is)
    (case lorder => k_is)
    (case corder => k_is)
    (case korder => k_is)
    (case aring_length => k_is)
    (case lring_length => k_is)
    (case cring_length => k_is)
    (case kring_length => k_is)
    (case adivisors => k_is)
    (case ldivisors => k_is)
    (case cdivisors => k_is)
    (case kdivisors => k_is)
    (case arings => k_is)
    (case lrings => k_is)
    (case crings => k_is)
    (case krings => k_is)
    (case alaw_purse => k_is)
    (case llaw_purse => k_is)
    (case claw_purse => k_is)
    (case klaw_purse => k_is)
    (case alaw_mixed => k_is)
    (case llaw_mixed => k_is)
    (case claw_mixed => k_is)
    (case klaw_mixed => k_is)
    (case alaw_draw => k_is)
    (case llaw_draw => k_is)
    (case claw_draw => k_is)
    (case klaw_draw => k_is)
    (case alaw_called => k_is)
    (case llaw_called => k_is)
    (case claw_called => k_is)
    (case klaw_called => k_is)
    (case alaw_is => k_is)
    (case llaw_is => k_is)
    (case claw_is => k_is)
    (case klaw_is => k_is)
    (case alaw_firsts_right => k_is)
    (case llaw_firsts_right => k_is)
    (case claw_firsts_right => k_is)
    (case klaw_firsts_right => k_is)
    (case alaw => k_is)
    (case llaw => k_is)
    (case claw => k_is)
    (case klaw => k_is)
    (case gaCellError => k_is)
    (case gtCellError => k_is)
    (case xsCellError => k_is)
    (case hdCellError => k_is)
    (case caCellError => k_is)
    (case cbCellError => k_is)
    (case ccCellError => k_is)
    (case cdCellError => k_is)
    (case exCellError => k_exc)
    (case kcCellError => k_is)
    (case tyCellError => k_is)
    (case rdCellError => k_is)
    (case rgCellError => k_is)
    (case viCellError => k_is)
    (case xtTab => kernel_rfl)
    (case knTab => kernel_rfl)
    (case gaInvalidNumber => k_is)
    (case gtInvalidNumber => k_is)
    (case xsInvalidNumber => k_is)
    (case hdInvalidNumber => k_is)
    (case caInvalidNumber => k_is)
    (case cbInvalidNumber => k_is)
    (case ccInvalidNumber => k_is)
    (case cdInvalidNumber => k_is)
    (case lkInvalidNumber => k_is)
    (case vbInvalidNumber => (first | rfl | decide +kernel))
    (case saInvalidNumber => k_is)
    (case tyInvalidNumber => k_is)
    (case kcInvalidNumber => k_is)
    (case fnInvalidNumber => k_is)
    (case noInvalidNumber => k_is)
    (case ktTab => kernel_rfl)
    (case nbool => k_is)
    (case nint => k_is)
    (case nisinstance => k_is)
    (case nlen => k_is)
    (case nlist => k_is)
    (case nmax => k_is)
    (case nrange => k_is)
    (case nrepr => k_is)
    (case nset => k_is)
    (case nsorted => k_is)
    (case nsum => k_is)
