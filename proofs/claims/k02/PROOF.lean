import PyProof.Rows.All
import Wide.All
import OpenK.AllK
import Wide.FinOn
import HandS.Base
import HandS.Call
import HandS.List
import HandS.Comp
import HandS.Ends
import HandS.Dict
import HandS.Iter
import HandS.Words
import HandS.Wide
import HandS.WideBits
import HandS.Defaults
import HandS.IsInst
import HandS.SortInts
import HandS.Strs
import HandS.TupAny
import HandS.Steps
import HandS.Set
import HandS.SetFor
import HandS.MakeKwOnly
import PyProof.Rows.SortShellAny
import PyProof.Rows.SortStr
import PyProof.Rows.StrMeet
import HandS.OwnEq
import HandS.DeepEq
import HandS.DictComp
import PyProof.InstNe
import HandS.Style
import KE.KItemsList
import HandS.SortOrd
import HandS.SortRule
import HandS.ListItems
import KE.KEqDeep
import HandS.Zip
import HandS.Finally
import HandS.More
import KE.KDictWalk
import KE.KDictDisplayH
import KE.KOpsOwn
import KE.KEqDict
import HandS.HeadHook2
import PySem.Challenge.RW_cellplaces_k02_forms_worked_out
set_option Elab.async false
set_option linter.all false
set_option maxRecDepth 100000
set_option maxHeartbeats 4000000

set_option linter.all false
set_option autoImplicit false
/-! numbers written by steps and sizes: one way alone, and all of them -/
namespace CP
namespace Gr
section
variable {α : Type}
def spot (t c : α → Int) : List α → Int
  | [] => 0
  | a :: L => c a * t a + spot t c L
def topv (t z : α → Int) (L : List α) : Int := spot t (fun a => z a - 1) L
def Good (t z : α → Int) : List α → Prop
  | [] => True
  | a :: L => 1 ≤ t a ∧ 1 ≤ z a ∧ (z a = 1 ∨ topv t z L < t a) ∧ Good t z L
def Within (z c : α → Int) (L : List α) : Prop := ∀ a ∈ L, 0 ≤ c a ∧ c a < z a
variable {t z c d : α → Int}
theorem spot_nil : spot t c [] = 0 := rfl
theorem spot_cons {a : α} {L : List α} : spot t c (a :: L) = c a * t a + spot t c L := rfl
theorem top_nil : topv t z [] = 0 := rfl
theorem top_cons {a : α} {L : List α} : topv t z (a :: L) = (z a - 1) * t a + topv t z L := rfl
theorem spot_congr : ∀ {L : List α}, (∀ a ∈ L, c a = d a) → spot t c L = spot t d L
  | [], _ => rfl
  | a :: L, h => by
    rw [spot_cons, spot_cons, h a (List.mem_cons_self ..), spot_congr fun b hb => h b (List.mem_cons_of_mem _ hb)]
theorem spot_perm {L M : List α} (p : L.Perm M) : spot t c L = spot t c M := by
  induction p with
  | nil => rfl
  | cons x _ ih => rw [spot_cons, spot_cons, ih]
  | swap x y l => rw [spot_cons, spot_cons, spot_cons, spot_cons]; omega
  | trans _ _ i1 i2 => exact i1.trans i2
theorem good_pos : ∀ {L : List α}, Good t z L → ∀ a ∈ L, 1 ≤ t a ∧ 1 ≤ z a
  | [], _, a, h => nomatch h
  | b :: L, g, a, h => by
    rcases List.mem_cons.mp h with rfl | h
    · exact ⟨g.1, g.2.1⟩
    · exact good_pos g.2.2.2 a h
theorem spot_nonneg : ∀ {L : List α}, (∀ a ∈ L, 1 ≤ t a) → Within z c L → 0 ≤ spot t c L
  | [], _, _ => Int.le_refl _
  | a :: L, h, w => by
    have i := spot_nonneg (fun b hb => h b (List.mem_cons_of_mem _ hb)) fun b hb => w b (List.mem_cons_of_mem _ hb)
    have := Int.mul_nonneg (w a (List.mem_cons_self ..)).1 (by have := h a (List.mem_cons_self ..); omega : 0 ≤ t a)
    rw [spot_cons]
    omega
theorem spot_le : ∀ {L : List α}, (∀ a ∈ L, 1 ≤ t a) → Within z c L → spot t c L ≤ topv t z L
  | [], _, _ => Int.le_refl _
  | a :: L, h, w => by
    have i := spot_le (fun b hb => h b (List.mem_cons_of_mem _ hb)) fun b hb => w b (List.mem_cons_of_mem _ hb)
    have wa := w a (List.mem_cons_self ..)
    have := Int.mul_le_mul_of_nonneg_right (by omega : c a ≤ z a - 1) (by have := h a (List.mem_cons_self ..); omega : 0 ≤ t a)
    rw [spot_cons, top_cons]
    omega
theorem top_lt {m : Int} (hm : 1 ≤ m) : ∀ {L : List α}, Good t z L → (∀ b ∈ L, z b * t b ≤ m) → topv t z L < m
  | [], _, _ => by rw [top_nil]; omega
  | b :: L, g, h => by
    obtain ⟨g1, g2, g3, g4⟩ := g
    rw [top_cons]
    rcases g3 with e | lt
    · have i := top_lt hm g4 fun x hx => h x (List.mem_cons_of_mem _ hx)
      rw [e]
      omega
    · have := h b (List.mem_cons_self ..)
      rw [Int.sub_mul, Int.one_mul]
      omega
theorem good_pair : ∀ {L : List α}, (∀ a ∈ L, 1 ≤ t a ∧ 1 ≤ z a) → L.Pairwise (fun a b => z b * t b ≤ t a) → Good t z L
  | [], _, _ => trivial
  | a :: L, h, p => by
    obtain ⟨p1, p2⟩ := List.pairwise_cons.mp p
    have g := good_pair (fun x hx => h x (List.mem_cons_of_mem _ hx)) p2
    have ha := h a (List.mem_cons_self ..)
    exact ⟨ha.1, ha.2, .inr (top_lt ha.1 g p1), g⟩
/-- by falling steps, any two of which are comparable -/
theorem good_sorted : ∀ {L : List α}, (∀ a ∈ L, 1 ≤ t a ∧ 1 ≤ z a) → L.Pairwise (fun a b => t b ≤ t a) → L.Pairwise (fun a b => z b * t b ≤ t a ∨ z a * t a ≤ t b) → Good t z L
  | [], _, _, _ => trivial
  | a :: L, h, p, q => by
    obtain ⟨p1, p2⟩ := List.pairwise_cons.mp p
    obtain ⟨q1, q2⟩ := List.pairwise_cons.mp q
    have g := good_sorted (fun x hx => h x (List.mem_cons_of_mem _ hx)) p2 q2
    have ha := h a (List.mem_cons_self ..)
    refine ⟨ha.1, ha.2, ?_, g⟩
    by_cases e : z a = 1
    · exact .inl e
    · refine .inr (top_lt ha.1 g fun b hb => ?_)
      rcases q1 b hb with k | k
      · exact k
      · have := p1 b hb
        have l := Int.mul_le_mul_of_nonneg_right (by omega : 2 ≤ z a) (by omega : 0 ≤ t a)
        omega
theorem inj : ∀ {L : List α}, Good t z L → Within z c L → Within z d L → spot t c L = spot t d L → ∀ a ∈ L, c a = d a
  | [], _, _, _, _, a, h => nomatch h
  | b :: L, g, w, v, e, a, ha => by
    obtain ⟨g1, g2, g3, g4⟩ := g
    have w' : Within z c L := fun x hx => w x (List.mem_cons_of_mem _ hx)
    have v' : Within z d L := fun x hx => v x (List.mem_cons_of_mem _ hx)
    have wb := w b (List.mem_cons_self ..)
    have vb := v b (List.mem_cons_self ..)
    have p : ∀ x ∈ L, 1 ≤ t x := fun x hx => (good_pos g4 x hx).1
    have k : c b = d b := by
      rcases g3 with z1 | lt
      · omega
      · have a1 := spot_nonneg p w'
        have a2 := spot_nonneg p v'
        have b1 := spot_le p w'
        have b2 := spot_le p v'
        rw [spot_cons, spot_cons] at e
        rcases Int.lt_trichotomy (c b) (d b) with l | l | l
        · have := Int.mul_le_mul_of_nonneg_right (by omega : c b + 1 ≤ d b) (by omega : 0 ≤ t b)
          rw [Int.add_mul, Int.one_mul] at this
          omega
        · exact l
        · have := Int.mul_le_mul_of_nonneg_right (by omega : d b + 1 ≤ c b) (by omega : 0 ≤ t b)
          rw [Int.add_mul, Int.one_mul] at this
          omega
    rcases List.mem_cons.mp ha with rfl | ha
    · exact k
    · refine inj g4 w' v' ?_ a ha
      rw [spot_cons, spot_cons, k] at e
      omega
/-- what is told from the greatest step down: the indices in this order, the rest -/
def tell (t z : α → Int) : List α → Int → List Int × Int
  | [], n => ([], n)
  | a :: L, n => let q := tell t z L (n - min (n / t a) (z a - 1) * t a); (min (n / t a) (z a - 1) :: q.1, q.2)
theorem tell_spot : ∀ {L : List α} {c : α → Int}, Good t z L → Within z c L → tell t z L (spot t c L) = (L.map c, 0)
  | [], _, _, _ => rfl
  | a :: L, c, g, w => by
    obtain ⟨g1, g2, g3, g4⟩ := g
    have w' : Within z c L := fun x hx => w x (List.mem_cons_of_mem _ hx)
    have wb := w a (List.mem_cons_self ..)
    have p : ∀ x ∈ L, 1 ≤ t x := fun x hx => (good_pos g4 x hx).1
    have a1 := spot_nonneg p w'
    have b1 := spot_le p w'
    have k : min (spot t c (a :: L) / t a) (z a - 1) = c a := by
      rw [spot_cons, Int.mul_comm, Int.mul_add_ediv_left _ _ (by omega)]
      rcases g3 with z1 | lt
      · have : 0 ≤ spot t c L / t a := Int.ediv_nonneg a1 (by omega)
        omega
      · rw [Int.ediv_eq_zero_of_lt a1 (by omega)]
        omega
    unfold tell
    dsimp only
    rw [k]
    have e : spot t c (a :: L) - c a * t a = spot t c L := by rw [spot_cons]; omega
    rw [e, tell_spot g4 w']
    rfl
/-- what is told lies within the sizes, and makes up the place but for the rest -/
theorem tell_ok : ∀ {L : List α} {n : Int}, (∀ a ∈ L, 1 ≤ t a ∧ 1 ≤ z a) → 0 ≤ n → (tell t z L n).1.length = L.length ∧ (∀ (i : Nat) (a : α) (x : Int), L[i]? = some a → (tell t z L n).1[i]? = some x → 0 ≤ x ∧ x < z a) ∧ 0 ≤ (tell t z L n).2 ∧ ∀ c : α → Int, L.map c = (tell t z L n).1 → n = spot t c L + (tell t z L n).2
  | [], n, _, h => ⟨rfl, fun i a x h => by simp at h, h, fun c _ => by simp [spot, tell]⟩
  | a :: L, n, h, h0 => by
    have ha := h a (List.mem_cons_self ..)
    have q0 : 0 ≤ n / t a := Int.ediv_nonneg h0 (by omega)
    have q1 : n / t a * t a ≤ n := Int.ediv_mul_le _ (by omega)
    have q2 : min (n / t a) (z a - 1) ≤ n / t a := Int.min_le_left _ _
    have q3 := Int.mul_le_mul_of_nonneg_right q2 (by omega : 0 ≤ t a)
    obtain ⟨i1, i2, i3, i4⟩ := tell_ok (L := L) (n := n - min (n / t a) (z a - 1) * t a) (fun b hb => h b (List.mem_cons_of_mem _ hb)) (by omega)
    refine ⟨by unfold tell; simp only [List.length_cons, i1], fun i b x hb hx => ?_, by unfold tell; exact i3, fun c e => ?_⟩
    · unfold tell at hx
      cases i with
      | zero =>
        simp only [List.getElem?_cons_zero, Option.some.injEq] at hb hx
        subst hb
        subst hx
        omega
      | succ i =>
        simp only [List.getElem?_cons_succ] at hb hx
        exact i2 i b x hb hx
    · unfold tell at e ⊢
      dsimp only at e ⊢
      rw [List.map_cons] at e
      obtain ⟨e1, e2⟩ := List.cons.inj e
      have := i4 c e2
      rw [spot_cons, e1]
      omega
end
/-! rising lists -/
theorem rise_lt : ∀ {xs : List Int} {x M : Int}, (x :: xs).Pairwise (· < ·) → (∀ y ∈ x :: xs, y < M) → x + xs.length < M
  | [], x, M, _, h => by have := h x (List.mem_cons_self ..); simpa using this
  | y :: xs, x, M, p, h => by
    obtain ⟨p1, p2⟩ := List.pairwise_cons.mp p
    have := rise_lt p2 fun z hz => h z (List.mem_cons_of_mem _ hz)
    have := p1 y (List.mem_cons_self ..)
    rw [List.length_cons]
    omega
theorem rise_all : ∀ {xs : List Int} {lo : Int}, xs.Pairwise (· < ·) → (∀ y ∈ xs, lo ≤ y ∧ y < lo + xs.length) → xs = (List.range xs.length).map fun i => lo + (i : Nat)
  | [], _, _, _ => rfl
  | x :: xs, lo, p, h => by
    have hx := h x (List.mem_cons_self ..)
    have e := rise_lt p fun y hy => (h y hy).2
    rw [List.length_cons] at e
    have x0 : x = lo := by omega
    subst x0
    obtain ⟨p1, p2⟩ := List.pairwise_cons.mp p
    have i := rise_all (lo := x + 1) p2 fun y hy => by
      have a := p1 y hy
      have b := (h y (List.mem_cons_of_mem _ hy)).2
      rw [List.length_cons] at b
      omega
    rw [List.length_cons, List.range_succ_eq_map, List.map_cons, List.map_map]
    congr 1
    · omega
    · rw [i]
      simp only [List.length_map, List.length_range]
      refine List.map_congr_left fun k _ => ?_
      show x + 1 + (k : Int) = x + ((k + 1 : Nat) : Int)
      omega
theorem perm_rise {xs ys : List Int} {N : Nat} (p : ys.Perm xs) (s : ys.Pairwise (· ≤ ·)) (nd : xs.Nodup) (hl : xs.length = N) (h : ∀ x ∈ xs, 0 ≤ x ∧ x < N) : ys = (List.range N).map fun i => ((i : Nat) : Int) := by
  have nd' : ys.Nodup := p.nodup_iff.mpr nd
  have lt : ys.Pairwise (· < ·) := by
    refine (List.Pairwise.and s nd').imp fun {a b} k => ?_
    have := k.1
    have := k.2
    omega
  have l : ys.length = N := by rw [p.length_eq, hl]
  have r := rise_all (lo := 0) lt fun y hy => by
    have := h y (p.mem_iff.mp hy)
    omega
  rw [r, l]
  refine List.map_congr_left fun k _ => ?_
  omega
/-! all cells -/
def cellsM : List Nat → List (List Int)
  | zs => zs.foldl (fun acc z => acc.flatMap fun c => (List.range z).map fun i => c ++ [((i : Nat) : Int)]) [[]]
theorem cells_app (zs : List Nat) (z : Nat) : cellsM (zs ++ [z]) = (cellsM zs).flatMap fun c => (List.range z).map fun i => c ++ [((i : Nat) : Int)] := by
  unfold cellsM
  rw [List.foldl_append]
  rfl
def prodN (zs : List Nat) : Nat := zs.foldl (· * ·) 1
theorem prodN_app (zs : List Nat) (z : Nat) : prodN (zs ++ [z]) = prodN zs * z := by
  unfold prodN
  rw [List.foldl_append]
  rfl
theorem flat_len {α β : Type} (f : α → List β) (n : Nat) (h : ∀ a, (f a).length = n) : ∀ l : List α, (l.flatMap f).length = l.length * n
  | [] => by simp
  | a :: l => by rw [List.flatMap_cons, List.length_append, h, flat_len f n h l, List.length_cons, Nat.add_mul]; omega
theorem cells_len : ∀ {zs : List Nat} (r : List Nat), r.reverse = zs → (cellsM zs).length = prodN zs
  | _, [], rfl => rfl
  | _, z :: r, rfl => by
    rw [List.reverse_cons, cells_app, prodN_app, flat_len _ z (by intro a; simp), cells_len r rfl]
theorem cells_within : ∀ {zs : List Nat} (r : List Nat), r.reverse = zs → ∀ c ∈ cellsM zs, c.length = zs.length ∧ ∀ (i : Nat) (x : Int) (z : Nat), c[i]? = some x → zs[i]? = some z → 0 ≤ x ∧ x < (z : Nat)
  | _, [], rfl, c, hc => by
    simp [cellsM] at hc
    subst hc
    exact ⟨rfl, fun i x z h => by simp at h⟩
  | _, z :: r, rfl, c, hc => by
    rw [List.reverse_cons, cells_app] at hc
    obtain ⟨b, hb, hc⟩ := List.mem_flatMap.mp hc
    obtain ⟨k, hk, rfl⟩ := List.mem_map.mp hc
    obtain ⟨i1, i2⟩ := cells_within r rfl b hb
    have hk := List.mem_range.mp hk
    refine ⟨by rw [List.length_append, List.reverse_cons, List.length_append, i1]; rfl, fun i x w hx hw => ?_⟩
    rw [List.reverse_cons] at hw
    by_cases lt : i < b.length
    · rw [List.getElem?_append_left lt] at hx
      rw [List.getElem?_append_left (by omega)] at hw
      exact i2 i x w hx hw
    · rw [List.getElem?_append_right (by omega)] at hx
      rw [List.getElem?_append_right (by omega)] at hw
      have e : i - b.length = 0 := by
        have := (List.getElem?_eq_some_iff.mp hx).1
        simp at this
        omega
      rw [e] at hx
      rw [← i1, e] at hw
      simp only [List.getElem?_cons_zero, Option.some.injEq] at hx hw
      subst hx
      subst hw
      omega
theorem cells_nodup : ∀ {zs : List Nat} (r : List Nat), r.reverse = zs → (cellsM zs).Nodup
  | _, [], rfl => by decide
  | _, z :: r, rfl => by
    rw [List.reverse_cons, cells_app]
    have ih := cells_nodup r rfl
    generalize cellsM r.reverse = l at ih ⊢
    induction l with
    | nil => simp
    | cons c l il =>
      obtain ⟨p1, p2⟩ := List.pairwise_cons.mp ih
      rw [List.flatMap_cons]
      refine List.nodup_append.mpr ⟨?_, il p2, fun a ha b hb e => ?_⟩
      · refine List.Pairwise.map _ ?_ (List.nodup_range (n := z))
        intro i j ne e
        have := (List.append_inj' e rfl).2
        injection this with k
        exact ne (by omega)
      · subst e
        obtain ⟨i, _, rfl⟩ := List.mem_map.mp ha
        obtain ⟨c2, h2, hb⟩ := List.mem_flatMap.mp hb
        obtain ⟨j, _, e⟩ := List.mem_map.mp hb
        exact p1 c2 h2 (List.append_inj' e rfl).1.symm
end Gr
end CP

set_option linter.all false
set_option autoImplicit false
/-! the first numbers that no one ahead divides -/
namespace CP
namespace Un
def tab : List Int := [2, 3, 5, 7, 11, 13, 17, 19, 23, 29, 31, 37]
/-- where the search for the next one starts -/
def start (i : Nat) : Int := if i = 0 then 2 else tab.getD (i - 1) 0
/-- where it ends -/
def stop (i : Nat) : Int := tab.getD i 0
theorem tab_hit : ∀ i < 12, ∀ k : Nat, k < 38 → start i ≤ (k : Int) → (k : Int) ≤ stop i → (((tab.take i).filter fun p => decide ((k : Int) % p = 0)) = [] ↔ (k : Int) = stop i) := by decide +kernel
theorem tab_up : ∀ i < 12, start i ≤ stop i ∧ 2 ≤ start i ∧ stop i < 38 := by decide
theorem tab_start : ∀ i < 12, start (i + 1) = stop i := fun i _ => by unfold start stop; simp
theorem tab_take : ∀ i < 12, tab.take (i + 1) = tab.take i ++ [stop i] := by decide
theorem tab_pos : ∀ p ∈ tab, 2 ≤ p ∧ p < 38 := by decide
theorem tab_co : ∀ i < 12, ∀ j < 12, i ≠ j → Nat.Coprime (tab.getD i 0).toNat (tab.getD j 0).toNat := by decide +kernel
end Un
end CP

set_option Elab.async false
set_option linter.all false
set_option maxRecDepth 100000
set_option maxHeartbeats 4000000
/-! CP: own short words over the hand layer: operators by name, readings one step at a time -/
namespace CP
open PySem L2

/-! ### operators by name -/
abbrev oAdd : R2 := rI0 fun i j => .int (i + j)
abbrev oSub : R2 := rI0 fun i j => .int (i - j)
abbrev oMul : R2 := rI CMulW fun i j => .int (i * j)
abbrev oDiv : R2 := rI CDivW fun i j => .int (i / j)
abbrev oMod : R2 := rI (fun _ j => 0 < j) fun i j => .int (i % j)
abbrev oLt : R2 := rI0 fun i j => .bl (decide (i < j))
abbrev oLe : R2 := rI0 fun i j => .bl (decide (i ≤ j))
abbrev oGt : R2 := rI0 fun i j => .bl (decide (j < i))
abbrev oGe : R2 := rI0 fun i j => .bl (decide (j ≤ i))
abbrev oNeg : V → Hp → VK → Prop := rU fun i => .int (-i)
/-- a power of a base below 2 ^ 1000, the exponent at most 1000 -/
def CPw (i j : Int) : Prop := 0 ≤ j ∧ j ≤ 1000 ∧ i.natAbs < 2 ^ 1000
abbrev oPow : R2 := rI CPw fun i j => .int (i ^ j.toNat)
def oList (K : PySem.W.Frag) : List V → Hp → VK → Prop := fun xs H Q => ∃ p ys, xs = [.ref p] ∧ (SqL K H p ys ∨ SqT K H p ys) ∧ ∀ l, H l = none → Q (.ref l) (upd H l (.lst ys))
def oMax2 : List V → Hp → VK → Prop := fun xs H Q => ∃ i j, xs = [.int i, .int j] ∧ Q (.int (if j > i then j else i)) H
def oMin2 : List V → Hp → VK → Prop := fun xs H Q => ∃ i j, xs = [.int i, .int j] ∧ Q (.int (if j < i then j else i)) H
def oAbs : List V → Hp → VK → Prop := fun xs H Q => ∃ i, xs = [.int i] ∧ Q (.int (if i < 0 then -i else i)) H
def rLenA (K : PySem.W.Frag) : List V → Hp → VK → Prop := fun xs H Q => ∃ p ys, xs = [.ref p] ∧ (SqL K H p ys ∨ SqT K H p ys) ∧ Q (.int ys.length) H
section
variable {X : Cx}
theorem call_lenA : CallR X (.builtin "len") (rLenA X.K) := call_len_seq
theorem call_maxA (h : X.calm = true) : CallR X (.builtin "max") oMax2 := call_max2 h
theorem call_minA (h : X.calm = true) : CallR X (.builtin "min") oMin2 := call_min2 h
theorem call_absA : CallR X (.builtin "abs") oAbs := call_abs
theorem call_listA : CallR X (.type "list") (oList X.K) := call_list_of
theorem op_powW : OpR X (binaryOp .Pow) oPow := opI fun i j _ _ _ _ _ hc q => by
  obtain ⟨h0, h1, h2⟩ := hc
  refine PyProof.Rows.pow_int h0 ?_ q
  have b := PyProof.Rows.intBits_le h2
  have h3 : (Builtin.Int.intBits i : Int) * j ≤ 1000 * j := Int.mul_le_mul_of_nonneg_right (by omega) h0
  omega
end

/-! ### kinds of values, isinstance -/
def kinds : List String := ["NoneType", "bool", "int", "str", "list", "tuple", "dict"]
theorem kit_all : (kinds.all fun n => (["int", "bool", "str", "list", "tuple", "dict"]).all fun c => decide (kitB n c = some (n == c || (n == "bool" && c == "int")))) = true := by decide +kernel
theorem kit_in {K : PySem.W.Frag} {n c : String} (h : n ∈ kinds) (hc : c ∈ ["int", "bool", "str", "list", "tuple", "dict"]) : PySem.W.kitOne K (.type n) (.type c) = some (n == c || (n == "bool" && c == "int")) :=
  kit_ty (of_decide_eq_true (List.all_eq_true.mp (List.all_eq_true.mp kit_all n h) c hc))
/-- a value of one of these kinds -/
def TK (K : PySem.W.Frag) (H : Hp) (x : V) (n : String) : Prop := n ∈ kinds ∧ TyX K H x (.type n)
section
variable {K : PySem.W.Frag} {H : Hp} {Q : VK} {x : V} {n c : String}
theorem r_isi (h : TK K H x n) (hc : c ∈ ["int", "bool", "str", "list", "tuple", "dict"]) (q : Q (.bl (n == c || (n == "bool" && c == "int"))) H) : rIsi K [x, .ty c] H Q :=
  ⟨x, .ty c, .type n, .type c, _, rfl, .ty c, h.2, kit_in h.1 hc, q⟩
theorem tk_int {i : Int} : TK K H (.int i) "int" := ⟨by decide, .base (.int i)⟩
theorem tk_bl {b : Bool} : TK K H (.bl b) "bool" := ⟨by decide, .base (.bl b)⟩
theorem tk_non : TK K H .non "NoneType" := ⟨by decide, .base .non⟩
theorem tk_str {z : Str} : TK K H (.str z) "str" := ⟨by decide, .base (.str z)⟩
theorem tk_lst {a : Addr} {xs : List V} (h : H a = some (.lst xs)) : TK K H (.ref a) "list" := ⟨by decide, .base (.lst h)⟩
theorem tk_tup {a : Addr} {xs : List V} (h : H a = some (.tup xs)) : TK K H (.ref a) "tuple" := ⟨by decide, .base (.tup h)⟩
theorem tk_dK {a : Addr} {kvs : List (Key × V)} (h : H a = some (.dK kvs)) : TK K H (.ref a) "dict" := ⟨by decide, .base (.dK h)⟩
theorem tk_dT {a : Addr} {kvs : List (List Key × V)} (h : H a = some (.dT kvs)) : TK K H (.ref a) "dict" := ⟨by decide, .base (.dT h)⟩
end
/-! ### sizes of products, divisors -/
theorem mul_ok {i j : Int} (h : -(2 ^ 400) < i ∧ i < 2 ^ 400 ∧ -(2 ^ 400) < j ∧ j < 2 ^ 400) : CMulW i j :=
  wide_mul (a := 400) (b := 400) (by omega) (by omega) (by decide) (by decide) (by decide)
theorem mul_okN {a b : Nat} (h : a < 2 ^ 400 ∧ b < 2 ^ 400) : CMulW (a : Int) (b : Int) := mul_ok (by omega)
theorem div_ok {i j : Int} (h : 0 < j ∧ j < 2 ^ 400) : CDivW i j := wide_div (b := 400) h.1 (by omega) (by decide) (by decide)

/-! ### heaps: one that grows, one that changes at one place -/
/-- all but l stands -/
def SB (l : Addr) (H H' : Hp) : Prop := ∀ b o, b ≠ l → H b = some o → H' b = some o
section
variable {H H1 H' : Hp} {a l : Addr} {o u : HO}
theorem same_new (h : H a = none) : Same H (upd H a o) := fun b u e => by
  rw [upd_ne (ne_of_none e h)]
  exact e
theorem sb_upd : SB l H (upd H l o) := fun b u hb e => by
  rw [upd_ne hb]
  exact e
theorem Same.to (s : Same H H') (h : H a = some o) : H' a = some o := s a o h
theorem SB.to (s : SB l H H') (n : a ≠ l) (h : H a = some o) : H' a = some o := s a o n h
theorem Same.sb (s : Same H H1) (n : H l = none) (b : SB l H1 H') : Same H H' := fun c u e => b c u (ne_of_none e n) (s c u e)
theorem SB.same (s : SB l H H1) (b : Same H1 H') : SB l H H' := fun c u hc e => b c u (s c u hc e)
theorem SB.trans (s : SB l H H1) (b : SB l H1 H') : SB l H H' := fun c u hc e => b c u hc (s c u hc e)
theorem SB.new (s : SB l H H1) (n : H a = none) (b : SB a H1 H') : SB l H H' := fun c u hc e => b c u (ne_of_none e n) (s c u hc e)
theorem Same.toSB (s : Same H H') : SB l H H' := fun c u _ e => s c u e
theorem SB.free (e : SB a H H') (h : H' l = none) (n : l ≠ a) : H l = none := by
  cases q : H l with
  | none => rfl
  | some o =>
    rw [e l o n q] at h
    cases h
end

/-- many new objects told at once -/
theorem inv_grow {X : Cx} {pins : List (Addr × Obj)} {σ : St} {H H' : Hp} {s : Shared} {h' : Heap} {tk : Nat} (I : Inv X pins σ H s) (hk : ∀ b o, s.heap.get? b = some o → h'.get? b = some o) (ext : Same H H')
    (new : ∀ b o, H' b = some o → H b = some o ∨ (s.heap.objs.size ≤ b ∧ ObjOk X.prog X.w H' h' b o)) : Inv X pins σ H' { s with heap := h', toks := tk } := by
  have old : ∀ b o, s.heap.get? b = some o → H b = none → H' b = none := fun b o e n => by
    cases q : H' b with
    | none => rfl
    | some u =>
      rcases new b u q with z | ⟨z, _⟩
      · rw [n] at z; cases z
      · exact absurd (Heap.lt_size e) (Nat.not_lt.mpr z)
  refine I.un ⟨fun b o e _ _ _ => hk b o e, fun b o e _ _ _ => ⟨o.slots, hk b o e⟩, fun b o e n _ => old b o e n, fun b o e _ => ⟨o, hk b o e⟩, fun b xs e => ext b _ e, fun b o u e => ext b _ e, fun b ps e => ⟨#[], by rw [ext b _ e]; simp⟩⟩ fun b u e => ?_
  rcases new b u e with z | ⟨_, z⟩
  · exact (I.hok b u z).stay (fun c v _ q => hk c v q) (fun c q => ext c _ q) fun c xs q => ext c _ q
  · exact z

/-! ### readings one step at a time -/
section
variable {K : PySem.W.Frag} {σ : St} {H : Hp} {Q : VK} {D : Ends} {i j : Nat} {v x y : V} {ta tb te : TE} {tt tu : TT} {t1 t2 : TS} {tas tr : TA}
theorem r_var (h : σ[i]? = some (some v)) (q : Q v H) : tVar i σ H Q := ⟨v, h, q⟩
theorem r_c (q : Q v H) : tC v σ H Q := q
theorem r_op {r : R2} (q : ta σ H fun x H1 => tb σ H1 fun y H2 => r x y H2 Q) : tOp r ta tb σ H Q := q
theorem r_un {r : V → Hp → VK → Prop} (q : ta σ H fun x H1 => r x H1 Q) : tUn r ta σ H Q := q
theorem r_I0 {g : Int → Int → V} {i j : Int} (q : Q (g i j) H) : rI0 g (.int i) (.int j) H Q := ⟨i, j, rfl, rfl, q⟩
theorem r_I {C : Int → Int → Prop} {g : Int → Int → V} {i j : Int} (c : C i j) (q : Q (g i j) H) : rI C g (.int i) (.int j) H Q := ⟨i, j, rfl, rfl, c, q⟩
theorem r_U {g : Int → V} {i : Int} (q : Q (g i) H) : rU g (.int i) H Q := ⟨i, rfl, q⟩
theorem r_eq (h : scal x y = true) (q : Q (.bl (decide (x = y))) H) : rEq x y H Q := ⟨h, q⟩
theorem r_ne (h : scal x y = true) (q : Q (.bl (!decide (x = y))) H) : rNe x y H Q := ⟨h, q⟩
theorem r_eqI {i j : Int} (q : Q (.bl (decide (i = j))) H) : rEq (.int i) (.int j) H Q := ⟨rfl, by
  have e : decide (V.int i = V.int j) = decide (i = j) := by
    by_cases h : i = j
    · subst h; simp
    · have h' : ¬ V.int i = V.int j := fun z => h (V.int.inj z)
      simp [h]
  rw [e]; exact q⟩
theorem r_neI {i j : Int} (q : Q (.bl (!decide (i = j))) H) : rNe (.int i) (.int j) H Q := ⟨rfl, by
  have e : decide (V.int i = V.int j) = decide (i = j) := by
    by_cases h : i = j
    · subst h; simp
    · have h' : ¬ V.int i = V.int j := fun z => h (V.int.inj z)
      simp [h]
  rw [e]; exact q⟩
theorem r_isN (q : Q (.bl (decide (x = .non))) H) : rIsN x .non H Q := ⟨rfl, q⟩
theorem r_notN (q : Q (.bl (!decide (x = .non))) H) : rNotN x .non H Q := ⟨rfl, q⟩
theorem r_test {Q : Bool → Hp → Prop} (q : te σ H fun x H1 => ∃ k, x = .bl k ∧ Q k H1) : tTest te σ H Q := q
theorem r_tB {Q : Bool → Hp → Prop} (q : te σ H fun x H1 => ∃ k, x = .bl k ∧ Q k H1) : tB te σ H Q := q
theorem r_tru {Q : Bool → Hp → Prop} (q : te σ H fun x H1 => ∃ k, TruV K x H1 k ∧ Q k H1) : tTru K te σ H Q := q
theorem r_bl {b : Bool} {P : Bool → Prop} (q : P b) : ∃ k, V.bl b = .bl k ∧ P k := ⟨b, rfl, q⟩
theorem r_and {Q : Bool → Hp → Prop} (q : tt σ H fun c H1 => if c = true then tu σ H1 Q else Q false H1) : tAnd tt tu σ H Q := q
theorem r_or {Q : Bool → Hp → Prop} (q : tt σ H fun c H1 => if c = true then Q true H1 else tu σ H1 Q) : tOr tt tu σ H Q := q
theorem r_not {Q : Bool → Hp → Prop} (q : tt σ H fun c H1 => Q (!c) H1) : tNot tt σ H Q := q
theorem r_andV (q : ta σ H fun x H1 => ∃ c, x = .bl c ∧ if c = true then tb σ H1 Q else Q (.bl false) H1) : tAndV ta tb σ H Q := q
theorem r_orV (q : ta σ H fun x H1 => ∃ c, x = .bl c ∧ if c = true then Q (.bl true) H1 else tb σ H1 Q) : tOrV ta tb σ H Q := q
theorem r_notV (q : ta σ H fun x H1 => ∃ c, x = .bl c ∧ Q (.bl (!c)) H1) : tNotV ta σ H Q := q
theorem r_ifE (q : tt σ H fun c H1 => if c = true then ta σ H1 Q else tb σ H1 Q) : tIf tt ta tb σ H Q := q
theorem r_nil {Q : List V → Hp → Prop} (q : Q [] H) : tNil σ H Q := q
theorem r_cons {Q : List V → Hp → Prop} (q : ta σ H fun x H1 => tr σ H1 fun xs H2 => Q (x :: xs) H2) : tCons ta tr σ H Q := q
theorem r_cb {r : List V → Hp → VK → Prop} (q : tas σ H fun vs H1 => r vs H1 Q) : tCB r tas σ H Q := q
theorem r_call {sp : Sp} {E : XK} (q : tas σ H fun vs H1 => sp (vs ++ []) H1 Q E) : tCall sp [] E tas σ H Q := q
theorem r_callD {sp : Sp} {dvs : List V} {E : XK} (q : tas σ H fun vs H1 => sp (vs ++ dvs) H1 Q E) : tCall sp dvs E tas σ H Q := q
/-- a new object -/
def NewO (o : HO) (H : Hp) (Q : VK) : Prop := ∀ p, H p = none → Q (.ref p) (upd H p o)
theorem r_newO {o : HO} (q : ∀ p H', H p = none → Same H H' → H' p = some o → Q (.ref p) H') : NewO o H Q := fun p h => q p _ h (same_new h) upd_same
theorem r_lst (q : tas σ H fun xs H1 => xs.length ≤ sizeLine ∧ NewO (.lst xs) H1 Q) : tLst tas σ H Q := q
theorem r_tup (q : tas σ H fun xs H1 => xs.length ≤ sizeLine ∧ NewO (.tup xs) H1 Q) : tTup tas σ H Q := q
theorem r_dnewK (q : NewO (.dK []) H Q) : tDNewK σ H Q := q
theorem r_mk {n : Nat} {o : HO} (hz : n ≤ sizeLine) (q : ∀ p H', H p = none → Same H H' → H' p = some o → Q (.ref p) H') : n ≤ sizeLine ∧ NewO o H Q := ⟨hz, r_newO q⟩
/-- an object changed -/
def PutO (l : Addr) (o : HO) (H : Hp) (P : Hp → Prop) : Prop := P (upd H l o)
theorem r_putO {P : Hp → Prop} {l : Addr} {o : HO} (q : ∀ H', SB l H H' → H' l = some o → P H') : PutO l o H P := q _ sb_upd upd_same
/-! built-ins by what they say -/
theorem r_len {p : Addr} {ys : List V} (h : SqL K H p ys) (q : Q (.int ys.length) H) : rLenA K [.ref p] H Q := ⟨p, ys, rfl, .inl h, q⟩
theorem r_lenT {p : Addr} {ys : List V} (h : SqT K H p ys) (q : Q (.int ys.length) H) : rLenA K [.ref p] H Q := ⟨p, ys, rfl, .inr h, q⟩
theorem r_list {p : Addr} {ys : List V} (h : SqL K H p ys) (q : ∀ l H', H l = none → Same H H' → H' l = some (.lst ys) → Q (.ref l) H') : oList K [.ref p] H Q := ⟨p, ys, rfl, .inl h, fun l hl => q l _ hl (same_new hl) upd_same⟩
theorem r_max2 {i j : Int} (q : Q (.int (if j > i then j else i)) H) : oMax2 [.int i, .int j] H Q := ⟨i, j, rfl, q⟩
theorem r_min2 {i j : Int} (q : Q (.int (if j < i then j else i)) H) : oMin2 [.int i, .int j] H Q := ⟨i, j, rfl, q⟩
theorem r_abs {i : Int} (q : Q (.int (if i < 0 then -i else i)) H) : oAbs [.int i] H Q := ⟨i, rfl, q⟩
theorem r_sum {p : Addr} {ns : List Int} (h : SqL K H p (ns.map V.int)) (q : Q (.int ns.sum) H) : rSum K [.ref p] H Q := ⟨p, ns, rfl, h, q⟩
theorem r_cat {p b : Addr} {xs ys : List V} (h : H p = some (.lst xs)) (h2 : H b = some (.lst ys)) (hz : xs.length + ys.length ≤ sizeLine) (q : ∀ l H', H l = none → Same H H' → H' l = some (.lst (xs ++ ys)) → Q (.ref l) H') : rCat (.ref p) (.ref b) H Q :=
  ⟨p, b, xs, ys, rfl, rfl, h, h2, hz, fun l hl => q l _ hl (same_new hl) upd_same⟩
theorem r_app {p : Addr} {xs : List V} {y : V} (h : H p = some (.lst xs)) (hz : xs.length < sizeLine) (q : ∀ H', SB p H H' → H' p = some (.lst (xs ++ [y])) → Q .non H') : rAppend (.ref p) [y] H Q :=
  ⟨p, xs, y, rfl, rfl, h, hz, q _ sb_upd upd_same⟩
theorem r_slL {p : Addr} {xs : List V} {lo hi : Option Int} (h : SqL K H p xs) (q : ∀ l H', H l = none → Same H H' → H' l = some (.lst (cutV xs lo hi)) → Q (.ref l) H') : rSlL K (.ref p) lo hi H Q :=
  ⟨p, xs, rfl, h, fun l hl => q l _ hl (same_new hl) upd_same⟩
theorem r_ixL {p : Addr} {xs : List V} {i : Int} {v : V} (h : SqL K H p xs) (ha : atI xs i = some v) (q : Q v H) : rIxL K (.ref p) (.int i) H Q := ⟨p, xs, i, v, rfl, rfl, h, ha, q⟩
theorem r_ixT {p : Addr} {xs : List V} {i : Int} {v : V} (h : SqT K H p xs) (ha : atI xs i = some v) (q : Q v H) : rIxT K (.ref p) (.int i) H Q := ⟨p, xs, i, v, rfl, rfl, h, ha, q⟩
theorem r_setL {P : Hp → Prop} {p : Addr} {xs : List V} {i : Int} {j : Nat} {v : V} (h : H p = some (.lst xs)) (hj : ixN xs.length i = some j) (q : ∀ H', SB p H H' → H' p = some (.lst (xs.set j v)) → P H') : rSetL (.ref p) (.int i) v H P :=
  ⟨p, xs, i, j, rfl, rfl, h, hj, q _ sb_upd upd_same⟩
theorem r_gsub {to ti : TE} {t : TSet} {q' : St → Hp → Prop} (q : to σ H fun o H1 => ti σ H1 fun i H2 => t o i v H2 fun H3 => q' σ H3) : gSub to ti t v σ H q' := q
theorem r_in {p : Addr} {xs : List V} {neg : Bool} (h : SqL K H p xs) (hx : flatV x = true) (ha : xs.all flatV = true) (q : Q (.bl (if neg then !inV x xs else inV x xs)) H) : rIn K neg x (.ref p) H Q := ⟨p, xs, rfl, .inl h, hx, ha, q⟩
theorem r_inT {p : Addr} {xs : List V} {neg : Bool} (h : SqT K H p xs) (hx : flatV x = true) (ha : xs.all flatV = true) (q : Q (.bl (if neg then !inV x xs else inV x xs)) H) : rIn K neg x (.ref p) H Q := ⟨p, xs, rfl, .inr h, hx, ha, q⟩
theorem r_bits {te : TE} (q : te σ H fun x H1 => ∃ i, x = .int i ∧ Q (.int (Builtin.Int.intBits i : Nat)) H1) : tBits te σ H Q := q
theorem r_iTup {R : It → Hp → Prop} {tl : TE} (q : tl σ H fun x H1 => ∃ a, x = .ref a ∧ (∃ xs, SqT K H1 a xs) ∧ R (Itt K a) H1) : iTup K tl σ H R := q
theorem r_iList {R : It → Hp → Prop} {tl : TE} (q : tl σ H fun x H1 => ∃ a, x = .ref a ∧ (∃ xs, SqL K H1 a xs) ∧ R (Itl K a) H1) : iList K tl σ H R := q
theorem r_iRng1 {R : It → Hp → Prop} (q : tas σ H fun vs H1 => ∃ j : Int, vs = [.int j] ∧ -(2 ^ 62) ≤ j ∧ j < 2 ^ 62 ∧ R (Itr 0 j.toNat) H1) : iRng1 tas σ H R := q
theorem r_dget2 {td ty tx : TE} (q : td σ H fun x H1 => ∃ a, x = .ref a ∧ IsD H1 a ∧ ty σ H1 fun y H2 => tx σ H2 fun z H3 => ∃ o, DGet H3 a y o ∧ Q (o.getD z) H3) : tDGet2 td ty tx σ H Q := q
theorem r_sdput {td ty tv : TE} (q : tv σ H fun v H1 => td σ H1 fun x H2 => ty σ H2 fun y H3 => ∃ a H4, x = .ref a ∧ DPut H3 a y v H4 ∧ D.nx σ H4) : sDPut td ty tv D σ H := q
theorem r_disp1 {i j : Int} (q : ∀ D H', H D = none → Same H H' → H' D = some (.dK [(Sum.inl i, .int j)]) → Q (.ref D) H') : tDisp [(tC (.int i), tC (.int j))] σ H Q := fun D hD => by
  refine ⟨upd_same, [(Sum.inl i, .int j)], rfl, Nat.succ_le_succ (Nat.zero_le _), ?_⟩
  refine q D _ hD (fun b o hb => ?_) upd_same
  have hne : b ≠ D := fun e => by rw [e, hD] at hb; cases hb
  rw [upd_ne hne, upd_ne hne]
  exact hb
theorem r_iRng2 {R : It → Hp → Prop} (q : tas σ H fun vs H1 => ∃ i j : Int, vs = [.int i, .int j] ∧ (-(2 ^ 62) ≤ i ∧ i < 2 ^ 62 ∧ -(2 ^ 62) ≤ j ∧ j < 2 ^ 62) ∧ R (Itr i (j - i).toNat) H1) : iRng2 tas σ H R := q
theorem r_rng2 {P : Int → Int → Prop} {i j : Int} (h : -(2 ^ 62) ≤ i ∧ i < 2 ^ 62 ∧ -(2 ^ 62) ≤ j ∧ j < 2 ^ 62) (q : P i j) : ∃ i' j' : Int, [V.int i, V.int j] = [.int i', .int j'] ∧ (-(2 ^ 62) ≤ i' ∧ i' < 2 ^ 62 ∧ -(2 ^ 62) ≤ j' ∧ j' < 2 ^ 62) ∧ P i' j' := ⟨i, j, rfl, h, q⟩
theorem r_neB {a b : Bool} (q : Q (.bl (a != b)) H) : rNe (.bl a) (.bl b) H Q := ⟨rfl, by cases a <;> cases b <;> simpa using q⟩
theorem r_eqB {a b : Bool} (q : Q (.bl (a == b)) H) : rEq (.bl a) (.bl b) H Q := ⟨rfl, by cases a <;> cases b <;> simpa using q⟩
theorem r_gtup {n : Nat} {u : TGs} {p : Addr} {xs : List V} {q' : St → Hp → Prop} (h : SqT K H p xs) (hl : xs.length = n) (q : u xs σ H q') : gTup K n u (.ref p) σ H q' := ⟨p, xs, rfl, h, hl, q⟩
theorem r_gcons {t : TG} {u : TGs} {v : V} {r : List V} {q' : St → Hp → Prop} (q : t v σ H fun σ' H' => u r σ' H' q') : gCons t u (v :: r) σ H q' := ⟨v, r, rfl, q⟩
theorem r_gnil {q' : St → Hp → Prop} (q : q' σ H) : gNil [] σ H q' := ⟨rfl, q⟩
theorem r_rng {P : Int → Prop} {j : Int} (h1 : -(2 ^ 62) ≤ j) (h2 : j < 2 ^ 62) (q : P j) : ∃ k : Int, [V.int j] = [.int k] ∧ -(2 ^ 62) ≤ k ∧ k < 2 ^ 62 ∧ P k := ⟨j, rfl, h1, h2, q⟩
/-- a comprehension over a list that stands, of flat tests and elements: what it makes -/
theorem r_lc {wi : TI} {g : TG} {vs : List Nat} (q : wi σ H fun J H1 => ∀ D, H1 D = none → ∃ W : Nat → Nat → Hp → Prop, (∃ m, W 0 m (upd H1 D (.lst []))) ∧ ∀ i m H, W i m H →
    (J.stop i H ∧ Q (.ref D) H) ∨ (J.go i H ∧ ∃ Nx : Hp → Prop, (∀ H', Nx H' → ∃ m', m' < m ∧ W (i + 1) m' H') ∧ ∀ x H', J.yld i H x H' → g x (wipe σ vs) H' fun σ2 H2 => wipe σ2 vs = wipe σ vs ∧ tt σ2 H2 fun b H3 =>
      if b = true then te σ2 H3 fun y H4 => ∃ acc, H4 D = some (.lst acc) ∧ acc.length < sizeLine ∧ Nx (upd H4 D (.lst (acc ++ [y]))) else Nx H3)) : tLc wi g tt te vs σ H Q := q
/-! statements -/
theorem r_seq (q : t1 { D with nx := t2 D } σ H) : tSeq t1 t2 D σ H := q
theorem r_next (q : D.nx σ H) : tNext D σ H := q
theorem r_brk (q : D.bk σ H) : tBreak D σ H := q
theorem r_cont (q : D.ct σ H) : tCont D σ H := q
theorem r_asg {g : TG} (q : te σ H fun x H1 => g x σ H1 D.nx) : tAsg te g D σ H := q
theorem r_name {q' : St → Hp → Prop} (q : q' (σ.set i (some v)) H) : gName i v σ H q' := q
theorem r_par (q : tas σ H fun vs H1 => ∃ v w, vs = [v, w] ∧ D.nx ((σ.set i (some v)).set j (some w)) H1) : tPar i j tas D σ H := q
theorem r_two {v w : V} {P : V → V → Prop} (q : P v w) : ∃ x y, [v, w] = [x, y] ∧ P x y := ⟨v, w, rfl, q⟩
theorem r_ret (q : te σ H D.rt) : tRet te D σ H := q
theorem r_retN (q : D.rt .non H) : tRetN D σ H := q
theorem r_drop (q : te σ H fun _ H1 => D.nx σ H1) : tDrop te D σ H := q
theorem r_ifS (q : tt σ H fun b H1 => if b = true then t1 D σ H1 else t2 D σ H1) : tIfS tt t1 t2 D σ H := q
/-! branches -/
theorem if_d {c : Prop} [Decidable c] {A B : Prop} (h1 : c → A) (h2 : ¬ c → B) : if decide c = true then A else B := by
  by_cases h : c
  · rw [decide_eq_true h, if_pos rfl]; exact h1 h
  · rw [decide_eq_false h, if_neg Bool.false_ne_true]; exact h2 h
theorem if_nd {c : Prop} [Decidable c] {A B : Prop} (h1 : ¬ c → A) (h2 : c → B) : if (!decide c) = true then A else B := by
  by_cases h : c
  · rw [decide_eq_true h]; exact h2 h
  · rw [decide_eq_false h]; exact h1 h
theorem if_b {b : Bool} {A B : Prop} (h1 : b = true → A) (h2 : b = false → B) : if b = true then A else B := by
  cases b with
  | true => exact h1 rfl
  | false => exact h2 rfl
theorem if_nb {b : Bool} {A B : Prop} (h1 : b = false → A) (h2 : b = true → B) : if (!b) = true then A else B := by
  cases b with
  | true => exact h2 rfl
  | false => exact h1 rfl
theorem if_t {A B : Prop} (h : A) : if true = true then A else B := h
theorem if_f {A B : Prop} (h : B) : if false = true then A else B := h
theorem if_nt {A B : Prop} (h : A) : if (!false) = true then A else B := h
theorem if_nf {A B : Prop} (h : B) : if (!true) = true then A else B := h
/-- the loop of a comprehension over a list at a: test and element read values alone -/
theorem lc_pure {a : Addr} {xs : List V} {g : TG} {vs : List Nat} {D : Addr} {H1 : Hp} {Qd : Hp → Prop} (p : V → Bool) (f : V → V) (hD : H1 D = none) (ha : SqL K H1 a xs) (hz : xs.length < sizeLine)
    (hs : ∀ x ∈ xs, ∀ H, Same H1 H → ∀ R : St → Hp → Prop, (∀ σ2, wipe σ2 vs = wipe σ vs ∧ (∀ Q' : Bool → Hp → Prop, Q' (p x) H → tt σ2 H Q') ∧ (p x = true → ∀ Q' : VK, Q' (f x) H → te σ2 H Q') → R σ2 H) → g x (wipe σ vs) H R)
    (hd : ∀ H', Same H1 H' → H' D = some (.lst ((xs.filter p).map f)) → Qd H') :
    ∃ W : Nat → Nat → Hp → Prop, (∃ m, W 0 m (upd H1 D (.lst []))) ∧ ∀ i m H, W i m H →
      ((Itl K a).stop i H ∧ Qd H) ∨ ((Itl K a).go i H ∧ ∃ Nx : Hp → Prop, (∀ H', Nx H' → ∃ m', m' < m ∧ W (i + 1) m' H') ∧ ∀ x H', (Itl K a).yld i H x H' → g x (wipe σ vs) H' fun σ2 H2 => wipe σ2 vs = wipe σ vs ∧ tt σ2 H2 fun b H3 =>
        if b = true then te σ2 H3 fun y H4 => ∃ acc, H4 D = some (.lst acc) ∧ acc.length < sizeLine ∧ Nx (upd H4 D (.lst (acc ++ [y]))) else Nx H3) := by
  refine lc_list (K := K) (a := a) (xs := xs) (fun i H => Same H1 H ∧ H D = some (.lst (((xs.take i).filter p).map f))) ⟨same_new hD, by rw [upd_same]; rfl⟩ (fun i H _ w => w.1.seq ha) ?_ ?_
  · rintro i x H hi ⟨s, e⟩
    have hx : x ∈ xs := List.mem_of_getElem? hi
    have tk : xs.take (i + 1) = xs.take i ++ [x] := by rw [List.take_add_one, hi]; rfl
    refine hs x hx H s _ fun σ2 ⟨w, h1, h2⟩ => ⟨w, h1 _ ?_⟩
    cases c : p x with
    | true =>
      refine if_t (h2 c _ ⟨_, e, ?_, CP.Same.sb s hD sb_upd, ?_⟩)
      · have q1 := List.length_filter_le p (xs.take i)
        have q2 : (xs.take i).length = min i xs.length := List.length_take
        rw [List.length_map]
        omega
      · rw [upd_same, tk, List.filter_append, List.map_append, List.filter_cons_of_pos c]
        rfl
    | false =>
      refine if_f ⟨s, ?_⟩
      rw [tk, List.filter_append, List.filter_cons_of_neg (by rw [c]; decide), List.filter_nil, List.append_nil]
      exact e
  · rintro H ⟨s, e⟩
    rw [List.take_length] at e
    exact hd H s e
theorem r_sl {r : V → Option Int → Option Int → Hp → VK → Prop} {tl th : TO} (q : te σ H fun x H1 => tl σ H1 fun l H2 => th σ H2 fun u H3 => r x l u H3 Q) : tSl r te tl th σ H Q := q
theorem r_noPart {Q : Option Int → Hp → Prop} (q : Q none H) : tNoPart σ H Q := q
theorem r_part {Q : Option Int → Hp → Prop} (q : te σ H fun x H1 => ∃ i, x = .int i ∧ Q (some i) H1) : tPart te σ H Q := q
theorem r_int {i : Int} {P : Int → Prop} (q : P i) : ∃ k, V.int i = .int k ∧ P k := ⟨i, rfl, q⟩
theorem r_bm {T : String} {r : V → List V → Hp → VK → Prop} (q : ta σ H fun x H1 => tyV K T x H1 ∧ tas σ H1 fun xs H2 => r x xs H2 Q) : tBM K T r ta tas σ H Q := q
theorem r_bm0 {T : String} {r : V → List V → Hp → VK → Prop} (q : ta σ H fun x H1 => tyV K T x H1 ∧ r x [] H1 Q) : tBM0 K T r ta σ H Q := q
/-! loops -/
/-- a while: W tells the slots and the heap by a datum, μ falls -/
theorem r_while {α : Type} {c : TT} {tb : TS} (W : α → St → Hp → Prop) (μ : α → Nat) (a0 : α) (h0 : W a0 σ H)
    (hs : ∀ a σ H, W a σ H → c σ H fun b H1 => if b = true then tb { D with nx := fun σ' H' => ∃ a', W a' σ' H' ∧ μ a' < μ a, ct := fun σ' H' => ∃ a', W a' σ' H' ∧ μ a' < μ a, bk := D.nx } σ H1 else D.nx σ H1)
    (mono : ∀ σ H Q Q', (∀ b H1, Q b H1 → Q' b H1) → c σ H Q → c σ H Q') : tWhile c tb D σ H := by
  refine ⟨fun m σ H => ∃ a, μ a = m ∧ W a σ H, ⟨_, a0, rfl, h0⟩, ?_⟩
  rintro m σ H ⟨a, rfl, w⟩
  refine mono σ H _ _ (fun b H1 q => ?_) (hs a σ H w)
  cases b with
  | true => exact ⟨_, fun σ' H' ⟨a', w', l⟩ => ⟨_, l, a', rfl, w'⟩, q⟩
  | false => exact q
/-- the same where the test's outcome is known by the datum -/
theorem r_whileD {α : Type} {c : TT} {tb : TS} (W : α → St → Hp → Prop) (μ : α → Nat) (go : α → Bool) (a0 : α) (h0 : W a0 σ H)
    (hc : ∀ a σ H, W a σ H → ∀ Q : Bool → Hp → Prop, Q (go a) H → c σ H Q)
    (hs : ∀ a σ H, W a σ H → go a = true → tb { D with nx := fun σ' H' => ∃ a', W a' σ' H' ∧ μ a' < μ a, ct := fun σ' H' => ∃ a', W a' σ' H' ∧ μ a' < μ a, bk := D.nx } σ H)
    (hd : ∀ a σ H, W a σ H → go a = false → D.nx σ H) : tWhile c tb D σ H := by
  refine ⟨fun m σ H => ∃ a, μ a = m ∧ W a σ H, ⟨_, a0, rfl, h0⟩, ?_⟩
  rintro m σ H ⟨a, rfl, w⟩
  refine hc a σ H w _ ?_
  cases e : go a with
  | true =>
    rw [if_pos rfl]
    exact ⟨_, fun σ' H' ⟨a', w', l⟩ => ⟨_, l, a', rfl, w'⟩, hs a σ H w e⟩
  | false =>
    rw [if_neg Bool.false_ne_true]
    exact hd a σ H w e
theorem r_for {wi : TI} {g : TG} {tb : TS} (q : wi σ H fun J H1 => ∃ W : Nat → Nat → St → Hp → Prop, (∃ m, W 0 m σ H1) ∧ ∀ i m σ H, W i m σ H →
    (J.stop i H ∧ D.nx σ H) ∨ (J.go i H ∧ ∃ N : St → Hp → Prop, (∀ σ' H', N σ' H' → ∃ m', m' < m ∧ W (i + 1) m' σ' H') ∧ ∀ x H', J.yld i H x H' → g x σ H' fun σ2 H2 => tb { D with nx := N, ct := N, bk := D.nx } σ2 H2)) : tFor wi g tb D σ H := q
end
section
variable {H : Hp} {Q : VK} {p : Addr}
theorem r_notNr (q : Q (.bl true) H) : rNotN (.ref p) .non H Q := ⟨rfl, by rw [decide_eq_false (fun z => nomatch z)]; exact q⟩
theorem r_notNn (q : Q (.bl false) H) : rNotN .non .non H Q := ⟨rfl, by rw [decide_eq_true rfl]; exact q⟩
theorem r_isNr (q : Q (.bl false) H) : rIsN (.ref p) .non H Q := ⟨rfl, by rw [decide_eq_false (fun z => nomatch z)]; exact q⟩
theorem r_isNn (q : Q (.bl true) H) : rIsN .non .non H Q := ⟨rfl, by rw [decide_eq_true rfl]; exact q⟩
end
end CP

set_option Elab.async false
set_option linter.all false
set_option maxRecDepth 100000
set_option maxHeartbeats 4000000
set_option autoImplicit false
/-! lists of counts as values -/
namespace CP
open L2 PySem PyProof.Rows
def natL (l : List Nat) : List V := l.map fun n : Nat => V.int (n : Int)
theorem natL_int (l : List Nat) : natL l = (l.map fun n : Nat => (n : Int)).map V.int := by
  unfold natL
  rw [List.map_map]
  rfl
theorem natL_app (l m : List Nat) : natL (l ++ m) = natL l ++ natL m := List.map_append
theorem natL_length (l : List Nat) : (natL l).length = l.length := List.length_map _
theorem natL_one (n : Nat) : natL [n] = [.int (n : Int)] := rfl
theorem natL_get {l : List Nat} {i : Nat} {x : V} (h : (natL l)[i]? = some x) : ∃ n, l[i]? = some n ∧ x = .int (n : Int) := by
  unfold natL at h
  rw [List.getElem?_map] at h
  cases e : l[i]? with
  | none => rw [e] at h; cases h
  | some n => rw [e] at h; exact ⟨n, rfl, (Option.some.inj h).symm⟩
theorem take_succ {α : Type} {l : List α} {i : Nat} {n : α} (h : l[i]? = some n) : l.take (i + 1) = l.take i ++ [n] := by
  rw [List.take_add_one, h]
  rfl
theorem foldl_succ {α β : Type} {f : β → α → β} {b : β} {l : List α} {i : Nat} {n : α} (h : l[i]? = some n) : (l.take (i + 1)).foldl f b = f ((l.take i).foldl f b) n := by
  rw [take_succ h, List.foldl_append]
  rfl
theorem natL_flat (l : List Nat) : (natL l).all flatV = true := by
  unfold natL
  rw [List.all_map]
  exact List.all_eq_true.mpr fun _ _ => rfl
theorem inV_nat (n : Nat) (l : List Nat) : inV (.int (n : Int)) (natL l) = l.contains n := by
  unfold inV natL
  induction l with
  | nil => rfl
  | cons a l ih =>
    rw [List.map_cons, List.any_cons, ih, List.contains_cons]
    congr 1
    show ((a : Int) == (n : Int)) = (n == a)
    by_cases e : a = n
    · subst e; simp
    · have e1 : ((a : Int) == (n : Int)) = false := by rw [beq_eq_false_iff_ne]; omega
      have e2 : (n == a) = false := by rw [beq_eq_false_iff_ne]; exact fun z => e z.symm
      rw [e1, e2]
theorem natL_inj {l m : List Nat} (h : natL l = natL m) : l = m := by
  induction l generalizing m with
  | nil =>
    cases m with
    | nil => rfl
    | cons b m => cases h
  | cons a l ih =>
    cases m with
    | nil => cases h
    | cons b m =>
      have h1 := List.cons.inj h
      have e : (a : Int) = b := V.int.inj h1.1
      rw [ih h1.2, Int.ofNat.inj e]
/-- a sorted list of ints without doubles, the same members as a list of counts -/
theorem ints_nat {us : List Int} {l : List Nat} (h1 : us.Pairwise (· < ·)) (h2 : ∀ k, k ∈ us ↔ k ∈ l.map fun n : Nat => (n : Int)) : ∃ m : List Nat, us = m.map (fun n : Nat => (n : Int)) ∧ m.Pairwise (· < ·) ∧ ∀ n, n ∈ m ↔ n ∈ l := by
  have pos : ∀ k ∈ us, ∃ n : Nat, k = (n : Int) := fun k hk => by
    obtain ⟨n, _, e⟩ := List.mem_map.mp ((h2 k).mp hk)
    exact ⟨n, e.symm⟩
  have e : us = (us.map Int.toNat).map (fun n : Nat => (n : Int)) := by
    rw [List.map_map]
    conv => lhs; rw [← List.map_id us]
    refine List.map_congr_left fun k hk => ?_
    obtain ⟨n, rfl⟩ := pos k hk
    rfl
  refine ⟨us.map Int.toNat, e, ?_, fun n => ?_⟩
  · rw [List.pairwise_map]
    refine h1.imp_of_mem fun {a b} ha hb hab => ?_
    obtain ⟨x, rfl⟩ := pos a ha
    obtain ⟨y, rfl⟩ := pos b hb
    simp only [Int.toNat_natCast]
    omega
  · constructor
    · intro h
      obtain ⟨k, hk, rfl⟩ := List.mem_map.mp h
      obtain ⟨x, hx, rfl⟩ := List.mem_map.mp ((h2 k).mp hk)
      simpa using hx
    · intro h
      exact List.mem_map.mpr ⟨(n : Int), (h2 n).mpr (List.mem_map.mpr ⟨n, h, rfl⟩), by simp⟩
theorem inV_two (p a b : Int) : inV (.int p) [.int a, .int b] = decide (p = a ∨ p = b) := by
  unfold inV
  show (a == p || (b == p || false)) = _
  by_cases h1 : p = a
  · subst h1; simp
  · by_cases h2 : p = b
    · subst h2; simp
    · have e1 : (a == p) = false := by rw [beq_eq_false_iff_ne]; exact fun z => h1 z.symm
      have e2 : (b == p) = false := by rw [beq_eq_false_iff_ne]; exact fun z => h2 z.symm
      rw [e1, e2, decide_eq_false (by omega)]
      rfl
theorem count_nat (l : List Nat) (n : Nat) : (l.map fun n : Nat => (n : Int)).count (n : Int) = l.count n := by
  induction l with
  | nil => rfl
  | cons a l ih =>
    rw [List.map_cons, List.count_cons, List.count_cons, ih]
    by_cases e : a = n
    · subst e; simp
    · have e1 : ((a : Int) == (n : Int)) = false := by rw [beq_eq_false_iff_ne]; omega
      have e2 : (a == n) = false := by rw [beq_eq_false_iff_ne]; exact e
      rw [e1, e2]
/-- a loop over a range that may be left early: Post holds behind it -/
theorem for_rangeP {lo : Int} {n : Nat} {g : TG} {tb : TS} {D : Ends} {σ : L2.St} {H : Hp} (Pv : Nat → L2.St → Hp → Prop) (Post : L2.St → Hp → Prop) (h0 : Pv 0 σ H)
    (hs : ∀ i σ H, i < n → Pv i σ H → ∀ B : L2.St → Hp → Prop, (∀ σ H, Post σ H → B σ H) → g (.int (lo + i)) σ H fun σ2 H2 => tb { D with nx := Pv (i + 1), ct := Pv (i + 1), bk := B } σ2 H2)
    (he : ∀ σ H, Pv n σ H → Post σ H) (hd : ∀ σ H, Post σ H → D.nx σ H) :
    ∃ W : Nat → Nat → L2.St → Hp → Prop, (∃ m, W 0 m σ H) ∧ ∀ i m σ H, W i m σ H →
      ((Itr lo n).stop i H ∧ D.nx σ H) ∨ ((Itr lo n).go i H ∧ ∃ N : L2.St → Hp → Prop, (∀ σ' H', N σ' H' → ∃ m', m' < m ∧ W (i + 1) m' σ' H') ∧ ∀ x H', (Itr lo n).yld i H x H' → g x σ H' fun σ2 H2 => tb { D with nx := N, ct := N, bk := D.nx } σ2 H2) :=
  for_range Pv h0 (fun i σ H hi p => hs i σ H hi p _ hd) fun σ H p => hd σ H (he σ H p)
end CP

set_option Elab.async false
set_option linter.all false
set_option maxRecDepth 100000
set_option maxHeartbeats 4000000
/-! sets of ints and of texts made of a list; sorted(set(list)) -/
namespace CP
open PySem L2

/-- the object of a set just made -/
abbrev set0 (w : World) : Obj := { cls := .type "set", dict := none, data := .set #[] 0 (.fresh 0 0 (!w.params.followText "set-order")) }
abbrev lit0 (l : Addr) : Obj := { cls := .type "list_iterator", data := .fields #[.ref l, .int 0 0] }
section
variable {P : Program} {w : World} {A : Around} {E : Value → Shared → Prop} {s : Shared} {Fin : Heap → Prop}
set_option maxRecDepth 100000 in
set_option maxHeartbeats 4000000 in
/-- set(l), l a list: its loop is what the caller says (it leaves the set as Fin tells) -/
theorem set_of_list {l : Addr} {items : Array Value} {Q : Value → Shared → Prop} (hl : s.heap.IsList l items)
    (loop : ∀ (A' : Around) (R : Result → Shared → Prop) (s1 : Shared), A'.handled = A.handled → s1.heap = (s.heap.push (set0 w)).push (lit0 l) →
      (∀ s', Moved [s.heap.objs.size, s.heap.objs.size + 1] (fun a b => b = a) s1 s' → Fin s'.heap → R (.ok (.ret .none)) s') →
      codeAny (model P w) A' (.builtin "set.update.loop" ⟨[.ref s.heap.objs.size, .ref (s.heap.objs.size + 1)], []⟩) R s1)
    (h : ∀ (h' : Heap) (tk : Nat), Fin h' → (∀ b o, s.heap.get? b = some o → h'.get? b = some o) → Q (.ref s.heap.objs.size) { s with heap := h', toks := tk }) :
    wpAny (model P w) A (call (.type "set") [.ref l]) Q E s := by
  have f1 := F.called_set.made
  have f2 := F.called_set.sub
  have f3 := F.called_set.notType
  have f4 := F.called_set.canCreate
  have f5 := F.typeCall_set_1 (.ref l)
  obtain ⟨cn, tl, f6⟩ := F.called_set.mro
  refine wpAny_call (codeAny_of_tree ?_)
  show wpAny _ _ (callAny (.type "set") _) _ _ _
  have e0 := weight_type_call_type "set" [.ref l] []
  refine wpAny_pure ⟨Code.quiet_builtin _ (by decide +kernel),
    codeAny_builtin F.entry_type_call ?_⟩
  rw [Around.under_plain e0 rfl]
  repeat (any_goals (first | assumption | wp_step))
  refine codeAny_mono (code_set_led1 (.ref l) (E := E)
    (Q₁ := fun v s₁ => v = .ref s.heap.objs.size ∧ s₁ = { s with heap := s.heap.push (set0 w) }) ⟨rfl, rfl⟩) fun r s₁ hr => ?_
  cases r with
  | error e => exact hr
  | ok fl =>
    cases fl with
    | ret obj =>
      obtain ⟨rfl, rfl⟩ := hr
      have g0 : (s.heap.push (set0 w)).get? s.heap.objs.size = some (set0 w) := Heap.get?_push_size _ rfl
      have gT : Shared.TypeIs { s with heap := s.heap.push (set0 w) } (.ref s.heap.objs.size) "set" := ⟨_, g0, rfl⟩
      have f7 := F.called_set.init.lookup
      have f8 := F.called_set.init.bind (.ref s.heap.objs.size)
      repeat (any_goals (first | assumption | wp_step))
      refine codeAny_mono (codeAny_call_builtin
        (R := wants (fun r s₂ => r = .none ∧ ∃ h' tk, s₂ = { s with heap := h', toks := tk } ∧ Fin h' ∧ ∀ b o, s.heap.get? b = some o → h'.get? b = some o) E)
        F.called_set.init.plain F.entry_set_init (check_set_init_1 gT ?_)) fun r₂ s₂ hr₂ => ?_
      · obtain ⟨ol, hol, hcl, nl, hdl⟩ := hl
        obtain ⟨c1, c2, c3, c4⟩ := ol
        simp only at hcl hdl
        subst hcl; subst hdl
        have hol' : (s.heap.push (set0 w)).get? l = some { cls := .type "list", dict := c2, data := .seq items nl, slots := c4 } := Heap.get?_push_of_some _ hol
        have u1 := F.sub_list_set
        have u2 := F.sub_list_frozenset
        have u3 : (Value.type "list" == Value.type "dict") = false := by decide
        have hl1 : (s.heap.push (set0 w)).IsList l items := ⟨_, hol', rfl, nl, rfl⟩
        clear f1 f2 f3 f4 f5 f6 f7 f8 e0 g0 gT h
        unfold Builtin.«set.__init__» noKeywords Builtin.Frozenset.updateFrom
        generalize hPI : pyIter = PI
        wp_walk
        subst hPI
        refine wpAny_pyIter_list hl1 ?_
        refine wpAny_bind (wpAny_runValue ?_)
        have z1 : (s.heap.push (set0 w)).objs.size = s.heap.objs.size + 1 := Heap.size_push ..
        rw [z1]
        refine loop _ _ _ (by simp) rfl fun s' hm hF => ?_
        obtain ⟨h', g2, d', tk', os'⟩ := s'
        have q1 : g2 = s.gens := hm.gens
        have q2 : d' = s.drawn := hm.drawn
        have q3 : os' = s.os := hm.os
        subst q1; subst q2; subst q3
        show wpAny _ _ _ _ _ _
        refine wpAny_pure ?_
        show wpAny _ _ (ret Value.none) _ _ _
        refine wpAny_pure ⟨rfl, h', tk', rfl, hF, fun b o e => ?_⟩
        have lt := Heap.lt_size e
        refine hm.heap b o (fun z => ?_) (Heap.get?_push_of_some _ (Heap.get?_push_of_some _ e))
        rcases List.mem_cons.mp z with z | z
        · exact absurd z (Nat.ne_of_lt lt)
        · exact absurd (List.mem_singleton.mp z) (Nat.ne_of_lt (Nat.lt_succ_of_lt lt))
      · cases r₂ with
        | error e => exact hr₂
        | ok fl₂ =>
          cases fl₂ with
          | ret r =>
            obtain ⟨rfl, h', tk, rfl, hF, hk⟩ := hr₂
            repeat (any_goals (first | assumption | wp_step))
            exact h _ _ hF hk
          | _ => exact hr₂.elim
    | _ => exact hr.elim
end
end CP

set_option Elab.async false
set_option linter.all false
set_option maxRecDepth 100000
set_option maxHeartbeats 4000000
/-! sets of ints made of a list; sorted(set(list)) -/
namespace CP
open PySem L2
section
variable {P : Program} {w : World} {A : Around} {E : Value → Shared → Prop} {s : Shared}
/-- the loop over ints -/
theorem loop_ints {l : Addr} {items : Array Value} {ns : List Int} (hh : A.handled = none) (hl : s.heap.IsList l items) (hi : PyProof.Rows.IntsAre items.toList ns) (hb : ns.length + 1 < scanBound) :
    ∀ (A' : Around) (R : Result → Shared → Prop) (s1 : Shared), A'.handled = A.handled → s1.heap = (s.heap.push (set0 w)).push (lit0 l) →
      (∀ s', Moved [s.heap.objs.size, s.heap.objs.size + 1] (fun a b => b = a) s1 s' → (∃ c, c ≤ ns.length ∧ SetR w s'.heap s.heap.objs.size (fun j => decide (j ∈ ns)) c) → R (.ok (.ret .none)) s') →
      codeAny (model P w) A' (.builtin "set.update.loop" ⟨[.ref s.heap.objs.size, .ref (s.heap.objs.size + 1)], []⟩) R s1 := by
  intro A' R s1 hA e1 k
  have hsz : items.size = ns.length := by
    have q := PyProof.Rows.IntsAre.length hi
    rwa [Array.length_toList] at q
  have hlt : l < s.heap.objs.size := by
    obtain ⟨o, e, _⟩ := hl
    exact Heap.lt_size e
  have z1 : (s.heap.push (set0 w)).objs.size = s.heap.objs.size + 1 := Heap.size_push ..
  have g0 : s1.heap.get? s.heap.objs.size = some (set0 w) := by
    rw [e1]; exact Heap.get?_push_of_some _ (Heap.get?_push_size _ rfl)
  have gI : s1.heap.get? (s.heap.objs.size + 1) = some (lit0 l) := by
    have q := Heap.get?_push_size (o := lit0 l) (s.heap.push (set0 w)) rfl
    rw [z1] at q
    rw [e1]; exact q
  have gl : s1.heap.IsList l items := by rw [e1]; exact (hl.push _).push _
  have W := (Walks.list (prog := P) (w := w) (A := A'.in1) (by simp [hA, hh]) (s.heap.objs.size + 1) l (Nat.ne_of_lt (Nat.lt_succ_of_lt hlt)) items).toS
  refine set_update_ints W s.heap.objs.size ?_ ns hsz hb ?_ (items.size - 0) 0 s1 rfl (Nat.zero_le _) ⟨⟨_, gI, rfl, rfl⟩, gl⟩ ⟨0, Nat.le_refl 0, setR_new_at g0⟩ fun s' c hm hc hS => ?_
  · intro z
    rcases List.mem_cons.mp z with z | z
    · exact absurd z (Nat.ne_of_lt (Nat.lt_succ_self _))
    · exact absurd (List.mem_singleton.mp z) (Nat.ne_of_gt hlt)
  · intro i v hv
    have hin : i < ns.length := by rw [← hsz]; exact (Array.getElem?_eq_some_iff.mp hv).1
    obtain ⟨t, e⟩ := PyProof.Rows.IntsAre.int_at hi i v (by rw [Array.getElem?_toList]; exact hv)
    refine ⟨ns[i], t, List.getElem?_eq_getElem hin, ?_⟩
    rw [e, List.getD_eq_getElem?_getD, List.getElem?_eq_getElem hin]
    rfl
  · exact k s' hm ⟨c, by omega, hS⟩
end
/-- set(xs), a list of ints -/
def rSetI (K : PySem.W.Frag) (w : World) : List V → Hp → VK → Prop := fun xs H Q => ∃ (l : Addr) (ns : List Int), xs = [.ref l] ∧ SqL K H l (ns.map V.int) ∧ ns.length < 4000 ∧
  ∀ p c, H p = none → c ≤ ns.length → Q (.ref p) (upd H p (SetO w p (fun j => decide (j ∈ ns)) c))
section
variable {X : Cx}
theorem cr_setI (hc : X.calm = true) : CallR X (.type "set") (rSetI X.K X.w) := by
  intro pins s σ H xs us Q I r h
  obtain ⟨l, ns, rfl, hl, hn, q⟩ := h
  obtain ⟨u, rfl, ru⟩ := vals1 r
  cases (show u = Value.ref l from ru)
  obtain ⟨its, rv, pl, hz⟩ := I.list hl
  have hi : PyProof.Rows.IntsAre its.toArray.toList ns := by simpa using ints_of_vals rv
  have hd : X.A.handled = none := I.ok.hd hc
  refine set_of_list (P := X.prog) (w := X.w) (Fin := fun h => ∃ c, c ≤ ns.length ∧ SetR X.w h s.heap.objs.size (fun j => decide (j ∈ ns)) c) pl.isList (loop_ints hd pl.isList hi (by unfold scanBound; omega)) fun h' tk hF hk => ?_
  obtain ⟨c, hc', R⟩ := hF
  have fr := I.hok.fresh (Nat.le_refl s.heap.objs.size)
  exact ⟨.ref s.heap.objs.size, _, I.laid (t' := tk) hk (Nat.le_refl _) (setO_new R), rfl, q _ _ fr hc'⟩
end
/-- sorted(set(xs)), a list of less than 64 ints: from where set is called -/
theorem r_sortSetI {K : PySem.W.Frag} {w : World} {σ : St} {H : Hp} {Q : VK} {l : Addr} {ns : List Int} (hl : SqL K H l (ns.map V.int)) (hn : ns.length < 64)
    (k : ∀ (us : List Int) (p : Addr) (H' : Hp), us.Pairwise (· < ·) → (∀ k, k ∈ us ↔ k ∈ ns) → Same H H' → H p = none → H' p = some (.lst (us.map V.int)) → Q (.ref p) H') :
    rSetI K w [.ref l] H fun x H1 => tNil σ H1 fun xs H2 => rSortedSet w (x :: xs) H2 Q := by
  refine ⟨l, ns, rfl, hl, by omega, fun p c hp hc => ?_⟩
  refine r_nil ⟨p, _, c, rfl, upd_same, by omega, fun us p2 hu hk he h2 => ?_⟩
  have h3 : H p2 = none := by
    by_cases e : p2 = p
    · rw [e, upd_same] at h2; cases h2
    · rwa [upd_ne e] at h2
  exact k us p2 _ hu (fun z => by rw [hk]; simp) ((same_new hp).trans (same_new h2)) h3 upd_same
end CP

set_option Elab.async false
set_option linter.all false
set_option maxRecDepth 100000
set_option maxHeartbeats 4000000
set_option autoImplicit false
/-! calls with keywords alone; what a call with keywords binds -/
namespace CP
open L2 PySem PyProof.Rows

def tCallW (m : Nat) (sp : Sp) (gV : List V → List V) (E : XK) (tk : TA) : TE := fun σ H Q => tk σ H fun zs H2 => zs.length = m ∧ sp (gV zs) H2 Q E
/-- the keywords' values in the parameters' order -/
structure KB0 (K : PySem.W.Frag) (fd : FuncData) (ps ks : List Str) (g : List Value → List Value) (gV : List V → List V) : Prop where
  to : ∀ (s : Shared) (ws : List Value), K.In s.heap → ws.length = ks.length → BindsTo s fd ⟨[], ks.zip ws⟩ (ps.zip (g ws))
  rel : ∀ {zs : List V} {ws : List Value}, Vals zs ws → zs.length = ks.length → Vals (gV zs) (g ws)
section
variable {X : Cx} {CX : CXT} {k m : Nat} {f : Addr} {fd : FuncData} {ps ks : List Str} {sp : Sp} {E : XK} {x : Str} {p pos : Pos} {kws : List Keyword} {tk : TA} {g : List Value → List Value} {gV : List V → List V}
theorem pe_callW (F : FnOk X.prog X.w X.K X.mg X.base CX k f fd ps sp) (hr : Room k X.A) (hg : Gl X x) (hm : X.mg x = some (.ref f)) (hk : PySem.W.keepIn X.K (.ref f) = true) (hb : KB0 X.K fd ps ks g gV) (hx : Passes CX X E) (hkw : PK X kws tk)
    (hall : (backToKw pos (keywordEach kws X.env)).all (·.1.isSome) = true := by rfl) (hks : (backToKw pos (keywordEach kws X.env)).filterMap (·.1) = ks := by rfl) (hlen : ks.length = m := by rfl) (hdb : (x == ("__debug__" : Str)) = false := by decide)
    (hpl : ((backTo pos (starEach [] X.env)).any (·.1) || (backToKw pos (keywordEach kws X.env)).any (·.1.isNone)) = false := by rfl) :
    PE X (.Call (.Name x p) [] kws pos) (tCallW m sp gV E tk) := by
  subst hlen
  refine ⟨fun pins s σ H Q I h => ?_⟩
  refine wpAny_Call_Name_kw (ld_glob I hg hm ?_ hdb)
  refine PySem.W.callWith_KW0 (h₀ := X.base) I.ok.mod.kin hk hall (thn (hkw.run pos pins s σ H _ I h) fun ws s1 ⟨zs, H1, I1, r, l, q⟩ => ⟨I1.kIn, ?_⟩) hpl
  rw [hks]
  have lw : ws.length = ks.length := r.length.symm.trans l
  refine wpAny_call (codeAny_mono (F.run X.A X.stack s1 H1 ⟨[], ks.zip ws⟩ (g ws) (gV zs) Q E hr I1.env0 (hb.to s1 ws I1.kIn lw) (hb.rel r l) q) fun r s' hq => ?_)
  cases r with
  | error e => exact hx pins σ H1 s1 e s' I1 hq
  | ok fl =>
    cases fl with
    | ret u => exact I1.after hq
    | next => exact False.elim hq
    | brk => exact False.elim hq
    | cont => exact False.elim hq
end
/-- a def without defaults -/
theorem Fun.kb {K : PySem.W.Frag} {x qual : Str} {st : Stmt} {f : Addr} {fd : FuncData} {ps ks : List Str} {g : List Value → List Value} {gV : List V → List V} (F : Fun K x qual st f fd)
    (h : ∀ (kV doc pm : Value) (an : Option Addr) (cdv ct : Value) (ws : List Value), ws.length = ks.length → bindArgs (PySem.W.fnOf x qual (defArgs st) (defBody st) (defScope st) .none kV doc pm an cdv ct) ⟨[], ks.zip ws⟩ = pure (ps.zip (g ws)))
    (hr : ∀ {zs : List V} {ws : List Value}, Vals zs ws → zs.length = ks.length → Vals (gV zs) (g ws)) : KB0 K fd ps ks g gV := by
  obtain ⟨oc, od, kV, doc, pm, an, cdv, ct, osl, rfl, lk, hcd⟩ := F.ex
  exact ⟨fun s ws _ hl => .of_eq (h kV doc pm an cdv ct ws hl), hr⟩
/-- a def with defaults -/
theorem FunD.kb {K : PySem.W.Frag} {x qual : Str} {params : Arguments} {body : List Stmt} {scope : Scope} {dvs : List V} {f : Addr} {fd : FuncData} {ps ks : List Str} {g : List Value → List Value → List Value} {gV : List V → List V} (F : FunD K x qual params body scope dvs [] f fd) (hd : dvs ≠ [])
    (h : ∀ (T : Addr) (kV doc pm : Value) (an : Option Addr) (cdv ct : Value) (its ws : List Value), its.length = dvs.length → ws.length = ks.length →
      ∃ k, bindArgs (PySem.W.fnOf x qual params body scope (.ref T) kV doc pm an cdv ct) ⟨[], ks.zip ws⟩ = seqItems? (.ref T) >>= k ∧ k (some its.toArray) = pure (ps.zip (g its ws)))
    (hr : ∀ {its : List Value} {zs : List V} {ws : List Value}, Vals dvs its → Vals zs ws → zs.length = ks.length → Vals (gV zs) (g its ws)) : ∃ its, KB0 K fd ps ks (g its) gV := by
  obtain ⟨oc, od, dV, kV, doc, pm, an, cdv, ct, osl, rfl, lk, hcd, hD, hK⟩ := F.ex
  rcases hD with ⟨e, _⟩ | ⟨_, T, o, its, m, rfl, lT, oT, rT⟩
  · exact absurd e hd
  · refine ⟨its, fun s ws X hl => ?_, fun r l => hr rT r l⟩
    obtain ⟨k, e1, e2⟩ := h T kV doc pm an cdv ct its ws rT.length.symm hl
    refine BindsTo.of_looks fun M => ?_
    rw [e1]
    exact looks_items X lT oT (.of_pure e2)
section
variable {σ : L2.St} {H : Hp} {Q : VK} {m : Nat} {sp : Sp} {gV : List V → List V} {E : XK} {tk : TA}
theorem r_callW (q : tk σ H fun zs H2 => zs.length = m ∧ sp (gV zs) H2 Q E) : tCallW m sp gV E tk σ H Q := q
end
/-- positional values first, then keywords; no defaults -/
theorem Fun.kbn {K : PySem.W.Frag} {x qual : Str} {st : Stmt} {f : Addr} {fd : FuncData} {ps ks : List Str} {n : Nat} {g : List Value → List Value → List Value} {gV : List V → List V → List V} (F : Fun K x qual st f fd)
    (h : ∀ (kV doc pm : Value) (an : Option Addr) (cdv ct : Value) (us ws : List Value), us.length = n → ws.length = ks.length → bindArgs (PySem.W.fnOf x qual (defArgs st) (defBody st) (defScope st) .none kV doc pm an cdv ct) ⟨us, ks.zip ws⟩ = pure (ps.zip (g us ws)))
    (hr : ∀ {vs : List V} {us : List Value} {zs : List V} {ws : List Value}, Vals vs us → Vals zs ws → Vals (gV vs zs) (g us ws)) : KBn K fd ps n ks g gV := by
  obtain ⟨oc, od, kV, doc, pm, an, cdv, ct, osl, rfl, lk, hcd⟩ := F.ex
  exact ⟨fun s us ws _ l1 l2 => .of_eq (h kV doc pm an cdv ct us ws l1 l2), hr⟩
end CP

set_option Elab.async false
set_option linter.all false
set_option maxRecDepth 100000
set_option maxHeartbeats 4000000
set_option autoImplicit false
/-! comprehensions whose elements are told one by one, new objects among them -/
namespace CP
open L2 PySem PyProof.Rows
/-- the heap without one object -/
def hide (D : Addr) (H : Hp) : Hp := fun b => if b = D then none else H b
theorem hide_ne {D b : Addr} {H : Hp} (h : b ≠ D) : hide D H b = H b := if_neg h
theorem hide_same {D : Addr} {H : Hp} : Same (hide D H) H := fun b o h => by
  unfold hide at h
  split at h
  · cases h
  · exact h
theorem hide_upd {D : Addr} {H : Hp} {o : HO} : hide D (upd H D o) = hide D H := funext fun b => by
  unfold hide
  by_cases e : b = D
  · rw [if_pos e, if_pos e]
  · rw [if_neg e, if_neg e, upd_ne e]
theorem hide_mono {D : Addr} {H H' : Hp} (s : Same H H') : Same (hide D H) (hide D H') := fun b o h => by
  unfold hide at h ⊢
  by_cases e : b = D
  · rw [if_pos e] at h; cases h
  · rw [if_neg e] at h; rw [if_neg e]; exact s b o h
theorem hide_none {D : Addr} {H : Hp} (h : H D = none) : hide D H = H := funext fun b => by
  unfold hide
  by_cases e : b = D
  · rw [if_pos e, e, h]
  · rw [if_neg e]
theorem pd_mono {α β : Type} {R R' : α → β → Prop} {xs : List α} {ys : List β} (h : Paired R xs ys) (m : ∀ a b, R a b → R' a b) : Paired R' xs ys := by
  induction h with
  | nil => exact .nil
  | cons h _ ih => exact .cons (m _ _ h) ih
theorem pd_len {α β : Type} {R : α → β → Prop} {xs : List α} {ys : List β} (h : Paired R xs ys) : xs.length = ys.length := by
  induction h with
  | nil => rfl
  | cons _ _ ih => rw [List.length_cons, List.length_cons, ih]
theorem pd_app {α β : Type} {R : α → β → Prop} {xs xs' : List α} {ys ys' : List β} (h : Paired R xs ys) (h' : Paired R xs' ys') : Paired R (xs ++ xs') (ys ++ ys') := by
  induction h with
  | nil => exact h'
  | cons h _ ih => exact .cons h ih
theorem pd_one {α β : Type} {R : α → β → Prop} {x : α} {y : β} (h : R x y) : Paired R [x] [y] := .cons h .nil
theorem pd_get {α β : Type} {R : α → β → Prop} {xs : List α} {ys : List β} (h : Paired R xs ys) {i : Nat} {x : α} (e : xs[i]? = some x) : ∃ y, ys[i]? = some y ∧ R x y := by
  induction h generalizing i with
  | nil => cases e
  | cons h _ ih =>
    cases i with
    | zero => cases e; exact ⟨_, rfl, h⟩
    | succ i => exact ih (i := i) e
theorem pd_get' {α β : Type} {R : α → β → Prop} {xs : List α} {ys : List β} (h : Paired R xs ys) {i : Nat} {y : β} (e : ys[i]? = some y) : ∃ x, xs[i]? = some x ∧ R x y := by
  induction h generalizing i with
  | nil => cases e
  | cons h _ ih =>
    cases i with
    | zero => cases e; exact ⟨_, rfl, h⟩
    | succ i => exact ih (i := i) e
theorem pd_eq {α : Type} {xs ys : List α} (h : Paired (fun a b => a = b) xs ys) : xs = ys := by
  induction h with
  | nil => rfl
  | cons h _ ih => rw [h, ih]
theorem pd_map {α β γ : Type} {R : α → β → Prop} {f : γ → β} {xs : List α} {ys : List γ} (h : Paired (fun a c => R a (f c)) xs ys) : Paired R xs (ys.map f) := by
  induction h with
  | nil => exact .nil
  | cons h _ ih => exact .cons h ih
theorem same_seqT {K : PySem.W.Frag} {H H' : Hp} {a : Addr} {xs : List V} (s : Same H H') (h : SqT K H a xs) : SqT K H' a xs := by
  rcases h with (z | ⟨o, z⟩) | z
  · exact .inl (.inl (s _ _ z))
  · exact .inl (.inr ⟨o, s _ _ z⟩)
  · exact .inr z
section
variable {β : Type} {K : PySem.W.Frag} {a : Addr} {xs : List V} {g : TG} {tt : TT} {te : TE} {vs : List Nat} {σ : L2.St} {H1 : Hp} {D : Addr} {Qd : Hp → Prop}
/-- the state behind i turns -/
def Acc (R : Hp → V → β → Prop) (H1 : Hp) (D : Addr) (ys : List (Option β)) (i : Nat) (H : Hp) : Prop := Same H1 H ∧ ∃ acc, H D = some (.lst acc) ∧ Paired (R (hide D H)) acc ((ys.take i).filterMap id)
theorem acc_zero {R : Hp → V → β → Prop} {ys : List (Option β)} (hD : H1 D = none) : Acc R H1 D ys 0 (upd H1 D (.lst [])) := ⟨same_new hD, [], upd_same, by rw [List.take_zero]; exact .nil⟩
theorem acc_no {R : Hp → V → β → Prop} (mono : ∀ H H' v b, Same H H' → R H v b → R H' v b) {ys : List (Option β)} {i : Nat} {H H' : Hp} (p : Acc R H1 D ys i H) (h : ys[i]? = some none) (s : Same H H') : Acc R H1 D ys (i + 1) H' := by
  obtain ⟨s1, acc, e, pr⟩ := p
  refine ⟨s1.trans s, acc, CP.Same.to s e, ?_⟩
  rw [List.take_add_one, h]
  simp only [Option.toList_some, List.filterMap_append, List.filterMap_cons, id_eq, List.filterMap_nil, List.append_nil]
  exact pd_mono pr fun v b => mono _ _ v b (hide_mono s)
theorem acc_yes {R : Hp → V → β → Prop} (mono : ∀ H H' v b, Same H H' → R H v b → R H' v b) {ys : List (Option β)} {i : Nat} {z : β} {H H' : Hp} {y : V} (hD : H1 D = none) (hz : ys.length < sizeLine) (p : Acc R H1 D ys i H) (h : ys[i]? = some (some z)) (s : Same H H') (r : R (hide D H') y z) :
    ∃ acc, H' D = some (.lst acc) ∧ acc.length < sizeLine ∧ Acc R H1 D ys (i + 1) (upd H' D (.lst (acc ++ [y]))) := by
  obtain ⟨s1, acc, e, pr⟩ := p
  refine ⟨acc, CP.Same.to s e, ?_, CP.Same.sb (s1.trans s) hD sb_upd, acc ++ [y], upd_same, ?_⟩
  · rw [pd_len pr]
    refine Nat.lt_of_le_of_lt (List.length_filterMap_le ..) ?_
    rw [List.length_take]
    omega
  · rw [List.take_add_one, h, hide_upd]
    simp only [Option.toList_some, List.filterMap_append, List.filterMap_cons, id_eq, List.filterMap_nil]
    exact pd_app (pd_mono pr fun v b => mono _ _ v b (hide_mono s)) (pd_one r)
theorem acc_end {R : Hp → V → β → Prop} (mono : ∀ H H' v b, Same H H' → R H v b → R H' v b) {ys : List (Option β)} {H : Hp} (p : Acc R H1 D ys ys.length H) : Same H1 H ∧ ∃ acc, H D = some (.lst acc) ∧ Paired (R H) acc (ys.filterMap id) := by
  obtain ⟨s1, acc, e, pr⟩ := p
  rw [List.take_length] at pr
  exact ⟨s1, acc, e, pd_mono pr fun v b => mono _ _ v b hide_same⟩
/-- one turn: what has to be shown of it -/
def Turn (g : TG) (tt : TT) (te : TE) (vs : List Nat) (σ : L2.St) (R : Hp → V → β → Prop) (D : Addr) (H : Hp) (x : V) (o : Option β) : Prop :=
  ∀ N : Hp → Prop, (∀ H', o = none → Same H H' → N H') → (∀ H' y z, o = some z → Same H H' → R (hide D H') y z → ∃ acc, H' D = some (.lst acc) ∧ acc.length < sizeLine ∧ N (upd H' D (.lst (acc ++ [y])))) →
    g x (wipe σ vs) H fun σ2 H2 => wipe σ2 vs = wipe σ vs ∧ tt σ2 H2 fun b H3 => if b = true then te σ2 H3 fun y H4 => ∃ acc, H4 D = some (.lst acc) ∧ acc.length < sizeLine ∧ N (upd H4 D (.lst (acc ++ [y]))) else N H3
theorem turn_of {R : Hp → V → β → Prop} (mono : ∀ H H' v b, Same H H' → R H v b → R H' v b) {ys : List (Option β)} (hD : H1 D = none) (hz : ys.length < sizeLine) {i : Nat} {H : Hp} {x : V} {o : Option β} (p : Acc R H1 D ys i H) (h : ys[i]? = some o) (t : Turn g tt te vs σ R D H x o) :
    g x (wipe σ vs) H fun σ2 H2 => wipe σ2 vs = wipe σ vs ∧ tt σ2 H2 fun b H3 => if b = true then te σ2 H3 fun y H4 => ∃ acc, H4 D = some (.lst acc) ∧ acc.length < sizeLine ∧ Acc R H1 D ys (i + 1) (upd H4 D (.lst (acc ++ [y]))) else Acc R H1 D ys (i + 1) H3 :=
  t _ (fun H' e s => acc_no mono p (by rw [h, e]) s) fun H' y z e s r => acc_yes mono hD hz p (by rw [h, e]) s r
/-- over a list that stands -/
theorem lc_tell (R : Hp → V → β → Prop) (ys : List (Option β)) (hD : H1 D = none) (ha : SqL K H1 a xs) (hl : xs.length = ys.length) (hz : ys.length < sizeLine) (mono : ∀ H H' v b, Same H H' → R H v b → R H' v b)
    (hs : ∀ (i : Nat) (x : V) (o : Option β) (H : Hp), xs[i]? = some x → ys[i]? = some o → Same H1 H → (∃ acc, H D = some (.lst acc)) → Turn g tt te vs σ R D H x o)
    (hd : ∀ H acc, Same H1 H → H D = some (.lst acc) → Paired (R H) acc (ys.filterMap id) → Qd H) :
    ∃ W : Nat → Nat → Hp → Prop, (∃ m, W 0 m (upd H1 D (.lst []))) ∧ ∀ i m H, W i m H →
      ((Itl K a).stop i H ∧ Qd H) ∨ ((Itl K a).go i H ∧ ∃ Nx : Hp → Prop, (∀ H', Nx H' → ∃ m', m' < m ∧ W (i + 1) m' H') ∧ ∀ x H', (Itl K a).yld i H x H' → g x (wipe σ vs) H' fun σ2 H2 => wipe σ2 vs = wipe σ vs ∧ tt σ2 H2 fun b H3 =>
        if b = true then te σ2 H3 fun y H4 => ∃ acc, H4 D = some (.lst acc) ∧ acc.length < sizeLine ∧ Nx (upd H4 D (.lst (acc ++ [y]))) else Nx H3) := by
  refine lc_list (K := K) (a := a) (xs := xs) (Acc R H1 D ys) (acc_zero hD) (fun i H _ w => L2.Same.seq w.1 ha) (fun i x H hx p => ?_) fun H p => ?_
  · have hi : i < ys.length := by rw [← hl]; exact (List.getElem?_eq_some_iff.mp hx).1
    exact turn_of mono hD hz p (List.getElem?_eq_getElem hi) (hs i x _ H hx (List.getElem?_eq_getElem hi) p.1 (p.2.imp fun _ z => z.1))
  · rw [hl] at p
    obtain ⟨s, acc, e, pr⟩ := acc_end mono p
    exact hd H acc s e pr
theorem lc_tellT (R : Hp → V → β → Prop) (ys : List (Option β)) (hD : H1 D = none) (ha : SqT K H1 a xs) (hl : xs.length = ys.length) (hz : ys.length < sizeLine) (mono : ∀ H H' v b, Same H H' → R H v b → R H' v b)
    (hs : ∀ (i : Nat) (x : V) (o : Option β) (H : Hp), xs[i]? = some x → ys[i]? = some o → Same H1 H → (∃ acc, H D = some (.lst acc)) → Turn g tt te vs σ R D H x o)
    (hd : ∀ H acc, Same H1 H → H D = some (.lst acc) → Paired (R H) acc (ys.filterMap id) → Qd H) :
    ∃ W : Nat → Nat → Hp → Prop, (∃ m, W 0 m (upd H1 D (.lst []))) ∧ ∀ i m H, W i m H →
      ((Itt K a).stop i H ∧ Qd H) ∨ ((Itt K a).go i H ∧ ∃ Nx : Hp → Prop, (∀ H', Nx H' → ∃ m', m' < m ∧ W (i + 1) m' H') ∧ ∀ x H', (Itt K a).yld i H x H' → g x (wipe σ vs) H' fun σ2 H2 => wipe σ2 vs = wipe σ vs ∧ tt σ2 H2 fun b H3 =>
        if b = true then te σ2 H3 fun y H4 => ∃ acc, H4 D = some (.lst acc) ∧ acc.length < sizeLine ∧ Nx (upd H4 D (.lst (acc ++ [y]))) else Nx H3) := by
  refine lc_tup (K := K) (a := a) (xs := xs) (Acc R H1 D ys) (acc_zero hD) (fun i H _ w => same_seqT w.1 ha) (fun i x H hx p => ?_) fun H p => ?_
  · have hi : i < ys.length := by rw [← hl]; exact (List.getElem?_eq_some_iff.mp hx).1
    exact turn_of mono hD hz p (List.getElem?_eq_getElem hi) (hs i x _ H hx (List.getElem?_eq_getElem hi) p.1 (p.2.imp fun _ z => z.1))
  · rw [hl] at p
    obtain ⟨s, acc, e, pr⟩ := acc_end mono p
    exact hd H acc s e pr
theorem lc_tellR {lo : Int} {n : Nat} (R : Hp → V → β → Prop) (ys : List (Option β)) (hD : H1 D = none) (hl : n = ys.length) (hz : ys.length < sizeLine) (mono : ∀ H H' v b, Same H H' → R H v b → R H' v b)
    (hs : ∀ (i : Nat) (o : Option β) (H : Hp), i < n → ys[i]? = some o → Same H1 H → (∃ acc, H D = some (.lst acc)) → Turn g tt te vs σ R D H (.int (lo + i)) o)
    (hd : ∀ H acc, Same H1 H → H D = some (.lst acc) → Paired (R H) acc (ys.filterMap id) → Qd H) :
    ∃ W : Nat → Nat → Hp → Prop, (∃ m, W 0 m (upd H1 D (.lst []))) ∧ ∀ i m H, W i m H →
      ((Itr lo n).stop i H ∧ Qd H) ∨ ((Itr lo n).go i H ∧ ∃ Nx : Hp → Prop, (∀ H', Nx H' → ∃ m', m' < m ∧ W (i + 1) m' H') ∧ ∀ x H', (Itr lo n).yld i H x H' → g x (wipe σ vs) H' fun σ2 H2 => wipe σ2 vs = wipe σ vs ∧ tt σ2 H2 fun b H3 =>
        if b = true then te σ2 H3 fun y H4 => ∃ acc, H4 D = some (.lst acc) ∧ acc.length < sizeLine ∧ Nx (upd H4 D (.lst (acc ++ [y]))) else Nx H3) := by
  refine lc_range (Acc R H1 D ys) (acc_zero hD) (fun i H hi p => ?_) fun H p => ?_
  · have hi' : i < ys.length := by rw [← hl]; exact hi
    exact turn_of mono hD hz p (List.getElem?_eq_getElem hi') (hs i _ H hi (List.getElem?_eq_getElem hi') p.1 (p.2.imp fun _ z => z.1))
  · rw [hl] at p
    obtain ⟨s, acc, e, pr⟩ := acc_end mono p
    exact hd H acc s e pr
/-- over a text -/
theorem lc_tellS {z : Str} (R : Hp → V → β → Prop) (ys : List (Option β)) (hD : H1 D = none) (hl : z.cps.size = ys.length) (hz : ys.length < sizeLine) (mono : ∀ H H' v b, Same H H' → R H v b → R H' v b)
    (hs : ∀ (i : Nat) (c : Nat) (o : Option β) (H : Hp), z.cps[i]? = some c → ys[i]? = some o → Same H1 H → (∃ acc, H D = some (.lst acc)) → Turn g tt te vs σ R D H (.str ⟨#[c]⟩) o)
    (hd : ∀ H acc, Same H1 H → H D = some (.lst acc) → Paired (R H) acc (ys.filterMap id) → Qd H) :
    ∃ W : Nat → Nat → Hp → Prop, (∃ m, W 0 m (upd H1 D (.lst []))) ∧ ∀ i m H, W i m H →
      ((Its z).stop i H ∧ Qd H) ∨ ((Its z).go i H ∧ ∃ Nx : Hp → Prop, (∀ H', Nx H' → ∃ m', m' < m ∧ W (i + 1) m' H') ∧ ∀ x H', (Its z).yld i H x H' → g x (wipe σ vs) H' fun σ2 H2 => wipe σ2 vs = wipe σ vs ∧ tt σ2 H2 fun b H3 =>
        if b = true then te σ2 H3 fun y H4 => ∃ acc, H4 D = some (.lst acc) ∧ acc.length < sizeLine ∧ Nx (upd H4 D (.lst (acc ++ [y]))) else Nx H3) := by
  refine ⟨fun i m H => m = ys.length - i ∧ i ≤ ys.length ∧ Acc R H1 D ys i H, ⟨ys.length, by simp, Nat.zero_le _, acc_zero hD⟩, ?_⟩
  rintro i m H ⟨rfl, hi, p⟩
  by_cases lt : i < ys.length
  · refine .inr ⟨(by rw [hl]; exact lt : i < z.cps.size), Acc R H1 D ys (i + 1), fun H' p' => ⟨ys.length - (i + 1), by omega, rfl, lt, p'⟩, fun x H' y => ?_⟩
    obtain ⟨rfl, c, hc, rfl⟩ := y
    exact turn_of mono hD hz p (List.getElem?_eq_getElem lt) (hs i c _ _ hc (List.getElem?_eq_getElem lt) p.1 (p.2.imp fun _ z => z.1))
  · have e : i = ys.length := by omega
    subst e
    obtain ⟨s, acc, e, pr⟩ := acc_end mono p
    exact .inl ⟨(by rw [hl]; exact Nat.le_refl _ : z.cps.size ≤ ys.length), hd H acc s e pr⟩
theorem lc_noneL {xs : List V} (hD : H1 D = none) (ha : SqL K H1 a xs) (hz : xs.length < sizeLine)
    (hs : ∀ (i : Nat) (x : V) (H : Hp), xs[i]? = some x → Same H1 H → Turn (β := V) g tt te vs σ (fun _ x b => x = b) D H x none) (hd : ∀ H, Same H1 H → H D = some (.lst []) → Qd H) :
    ∃ W : Nat → Nat → Hp → Prop, (∃ m, W 0 m (upd H1 D (.lst []))) ∧ ∀ i m H, W i m H →
      ((Itl K a).stop i H ∧ Qd H) ∨ ((Itl K a).go i H ∧ ∃ Nx : Hp → Prop, (∀ H', Nx H' → ∃ m', m' < m ∧ W (i + 1) m' H') ∧ ∀ x H', (Itl K a).yld i H x H' → g x (wipe σ vs) H' fun σ2 H2 => wipe σ2 vs = wipe σ vs ∧ tt σ2 H2 fun b H3 =>
        if b = true then te σ2 H3 fun y H4 => ∃ acc, H4 D = some (.lst acc) ∧ acc.length < sizeLine ∧ Nx (upd H4 D (.lst (acc ++ [y]))) else Nx H3) := by
  refine lc_tell (β := V) (fun _ x b => x = b) (xs.map fun _ => none) hD ha (by rw [List.length_map]) (by rw [List.length_map]; exact hz) (fun _ _ _ _ _ z => z) (fun i x o H hx ho s1 _ => ?_) fun H acc s1 hacc pp => ?_
  · have e : o = none := by
      rw [List.getElem?_map, hx] at ho
      exact (Option.some.inj ho).symm
    subst e
    exact hs i x H hx s1
  · have e : acc = [] := by
      rw [pd_eq pp]
      clear pp hs hz ha
      induction xs with
      | nil => rfl
      | cons _ xs ih => exact ih
    subst e
    exact hd H s1 hacc
theorem lc_valsL {xs : List V} (ys : List V) (hD : H1 D = none) (ha : SqL K H1 a xs) (hl : xs.length = ys.length) (hz : ys.length < sizeLine)
    (hs : ∀ (i : Nat) (x y : V) (H : Hp), xs[i]? = some x → ys[i]? = some y → Same H1 H → Turn (β := V) g tt te vs σ (fun _ x b => x = b) D H x (some y)) (hd : ∀ H, Same H1 H → H D = some (.lst ys) → Qd H) :
    ∃ W : Nat → Nat → Hp → Prop, (∃ m, W 0 m (upd H1 D (.lst []))) ∧ ∀ i m H, W i m H →
      ((Itl K a).stop i H ∧ Qd H) ∨ ((Itl K a).go i H ∧ ∃ Nx : Hp → Prop, (∀ H', Nx H' → ∃ m', m' < m ∧ W (i + 1) m' H') ∧ ∀ x H', (Itl K a).yld i H x H' → g x (wipe σ vs) H' fun σ2 H2 => wipe σ2 vs = wipe σ vs ∧ tt σ2 H2 fun b H3 =>
        if b = true then te σ2 H3 fun y H4 => ∃ acc, H4 D = some (.lst acc) ∧ acc.length < sizeLine ∧ Nx (upd H4 D (.lst (acc ++ [y]))) else Nx H3) := by
  refine lc_tell (β := V) (fun _ x b => x = b) (ys.map some) hD ha (by rw [List.length_map]; exact hl) (by rw [List.length_map]; exact hz) (fun _ _ _ _ _ z => z) (fun i x o H hx ho s1 _ => ?_) fun H acc s1 hacc pp => ?_
  · rw [List.getElem?_map] at ho
    cases ey : ys[i]? with
    | none => rw [ey] at ho; cases ho
    | some y =>
      rw [ey] at ho
      cases ho
      exact hs i x y H hx ey s1
  · have e : acc = ys := by
      rw [pd_eq pp, List.filterMap_map]
      exact List.filterMap_some
    subst e
    exact hd H s1 hacc
theorem lc_noneT {xs : List V} (hD : H1 D = none) (ha : SqT K H1 a xs) (hz : xs.length < sizeLine)
    (hs : ∀ (i : Nat) (x : V) (H : Hp), xs[i]? = some x → Same H1 H → Turn (β := V) g tt te vs σ (fun _ x b => x = b) D H x none) (hd : ∀ H, Same H1 H → H D = some (.lst []) → Qd H) :
    ∃ W : Nat → Nat → Hp → Prop, (∃ m, W 0 m (upd H1 D (.lst []))) ∧ ∀ i m H, W i m H →
      ((Itt K a).stop i H ∧ Qd H) ∨ ((Itt K a).go i H ∧ ∃ Nx : Hp → Prop, (∀ H', Nx H' → ∃ m', m' < m ∧ W (i + 1) m' H') ∧ ∀ x H', (Itt K a).yld i H x H' → g x (wipe σ vs) H' fun σ2 H2 => wipe σ2 vs = wipe σ vs ∧ tt σ2 H2 fun b H3 =>
        if b = true then te σ2 H3 fun y H4 => ∃ acc, H4 D = some (.lst acc) ∧ acc.length < sizeLine ∧ Nx (upd H4 D (.lst (acc ++ [y]))) else Nx H3) := by
  refine lc_tellT (β := V) (fun _ x b => x = b) (xs.map fun _ => none) hD ha (by rw [List.length_map]) (by rw [List.length_map]; exact hz) (fun _ _ _ _ _ z => z) (fun i x o H hx ho s1 _ => ?_) fun H acc s1 hacc pp => ?_
  · have e : o = none := by
      rw [List.getElem?_map, hx] at ho
      exact (Option.some.inj ho).symm
    subst e
    exact hs i x H hx s1
  · have e : acc = [] := by
      rw [pd_eq pp]
      clear pp hs hz ha
      induction xs with
      | nil => rfl
      | cons _ xs ih => exact ih
    subst e
    exact hd H s1 hacc
theorem lc_valsT {xs : List V} (ys : List V) (hD : H1 D = none) (ha : SqT K H1 a xs) (hl : xs.length = ys.length) (hz : ys.length < sizeLine)
    (hs : ∀ (i : Nat) (x y : V) (H : Hp), xs[i]? = some x → ys[i]? = some y → Same H1 H → Turn (β := V) g tt te vs σ (fun _ x b => x = b) D H x (some y)) (hd : ∀ H, Same H1 H → H D = some (.lst ys) → Qd H) :
    ∃ W : Nat → Nat → Hp → Prop, (∃ m, W 0 m (upd H1 D (.lst []))) ∧ ∀ i m H, W i m H →
      ((Itt K a).stop i H ∧ Qd H) ∨ ((Itt K a).go i H ∧ ∃ Nx : Hp → Prop, (∀ H', Nx H' → ∃ m', m' < m ∧ W (i + 1) m' H') ∧ ∀ x H', (Itt K a).yld i H x H' → g x (wipe σ vs) H' fun σ2 H2 => wipe σ2 vs = wipe σ vs ∧ tt σ2 H2 fun b H3 =>
        if b = true then te σ2 H3 fun y H4 => ∃ acc, H4 D = some (.lst acc) ∧ acc.length < sizeLine ∧ Nx (upd H4 D (.lst (acc ++ [y]))) else Nx H3) := by
  refine lc_tellT (β := V) (fun _ x b => x = b) (ys.map some) hD ha (by rw [List.length_map]; exact hl) (by rw [List.length_map]; exact hz) (fun _ _ _ _ _ z => z) (fun i x o H hx ho s1 _ => ?_) fun H acc s1 hacc pp => ?_
  · rw [List.getElem?_map] at ho
    cases ey : ys[i]? with
    | none => rw [ey] at ho; cases ho
    | some y =>
      rw [ey] at ho
      cases ho
      exact hs i x y H hx ey s1
  · have e : acc = ys := by
      rw [pd_eq pp, List.filterMap_map]
      exact List.filterMap_some
    subst e
    exact hd H s1 hacc
theorem r_yes {σ : L2.St} {H : Hp} {Q : Bool → Hp → Prop} (q : Q true H) : tYes σ H Q := q
end
end CP

set_option Elab.async false
set_option linter.all false
set_option maxRecDepth 100000
set_option maxHeartbeats 4000000
set_option autoImplicit false
/-! dicts whose keys are numbers and texts: one step at a time -/
namespace CP
open L2 PySem PyProof.Rows
section
variable {K : PySem.W.Frag} {σ : L2.St} {H : Hp} {Q : VK} {d : Addr} {kvs : List (Key × V)} {v : V} {i : Int} {z : Str} {td ty tv : TE}
theorem r_tdni (q : ty σ H fun y H1 => td σ H1 fun x H2 => ∃ a o, x = .ref a ∧ DGet H2 a y o ∧ Q (.bl (!o.isSome)) H2) : tDNotIn ty td σ H Q := q
theorem r_tdin (q : ty σ H fun y H1 => td σ H1 fun x H2 => ∃ a o, x = .ref a ∧ DGet H2 a y o ∧ Q (.bl o.isSome) H2) : tDIn ty td σ H Q := q
theorem r_tdget (q : td σ H fun x H1 => ty σ H1 fun y H2 => ∃ a v, x = .ref a ∧ DGet H2 a y (some v) ∧ Q v H2) : tDGet td ty σ H Q := q
theorem r_lookI {P : Option V → Prop} (h : H d = some (.dK kvs)) (q : P (valV kvs (Sum.inl i))) : ∃ a o, V.ref d = .ref a ∧ DGet H a (.int i) o ∧ P o := ⟨d, _, rfl, DGet.k (k := Sum.inl i) h, q⟩
theorem r_lookS {P : Option V → Prop} (h : H d = some (.dK kvs)) (q : P (valV kvs (Sum.inr z))) : ∃ a o, V.ref d = .ref a ∧ DGet H a (.str z) o ∧ P o := ⟨d, _, rfl, DGet.k (k := Sum.inr z) h, q⟩
theorem r_dgetI {P : V → Prop} (h : H d = some (.dK kvs)) (e : valV kvs (Sum.inl i) = some v) (q : P v) : ∃ a v, V.ref d = .ref a ∧ DGet H a (.int i) (some v) ∧ P v := ⟨d, v, rfl, e ▸ DGet.k (k := Sum.inl i) h, q⟩
theorem r_dgetS {P : V → Prop} (h : H d = some (.dK kvs)) (e : valV kvs (Sum.inr z) = some v) (q : P v) : ∃ a v, V.ref d = .ref a ∧ DGet H a (.str z) (some v) ∧ P v := ⟨d, v, rfl, e ▸ DGet.k (k := Sum.inr z) h, q⟩
theorem r_dget2I {P : Option V → Prop} (h : H d = some (.dK kvs)) (q : P (valV kvs (Sum.inl i))) : ∃ o, DGet H d (.int i) o ∧ P o := ⟨_, DGet.k (k := Sum.inl i) h, q⟩
theorem r_dget2S {P : Option V → Prop} (h : H d = some (.dK kvs)) (q : P (valV kvs (Sum.inr z))) : ∃ o, DGet H d (.str z) o ∧ P o := ⟨_, DGet.k (k := Sum.inr z) h, q⟩
theorem r_isD {P : Addr → Prop} (h : H d = some (.dK kvs)) (q : P d) : ∃ a, V.ref d = .ref a ∧ IsD H a ∧ P a := ⟨d, rfl, .inl ⟨_, .inl h⟩, q⟩
theorem r_dputI {N : Hp → Prop} (h : H d = some (.dK kvs)) (l : kvs.length < sizeLine) (q : ∀ H', SB d H H' → H' d = some (.dK (putK kvs (Sum.inl i) v)) → N H') : ∃ a H', V.ref d = .ref a ∧ DPut H a (.int i) v H' ∧ N H' :=
  ⟨d, _, rfl, .inl ⟨kvs, Sum.inl i, h, rfl, l, rfl⟩, q _ sb_upd upd_same⟩
theorem r_dputS {N : Hp → Prop} (h : H d = some (.dK kvs)) (l : kvs.length < sizeLine) (q : ∀ H', SB d H H' → H' d = some (.dK (putK kvs (Sum.inr z) v)) → N H') : ∃ a H', V.ref d = .ref a ∧ DPut H a (.str z) v H' ∧ N H' :=
  ⟨d, _, rfl, .inl ⟨kvs, Sum.inr z, h, rfl, l, rfl⟩, q _ sb_upd upd_same⟩
theorem r_lenD (h : H d = some (.dK kvs)) (q : Q (.int kvs.length) H) : ∃ a kvs', V.ref d = .ref a ∧ H a = some (.dK kvs') ∧ Q (.int kvs'.length) H := ⟨d, kvs, rfl, h, q⟩
end
end CP

set_option Elab.async false
set_option linter.all false
set_option maxRecDepth 100000
set_option maxHeartbeats 4000000
/-! sets of texts: made of a list, sorted -/
namespace CP
open PySem L2 PySem.Spec PyProof.Rows
def txtOf (e : Int × Value) : Str := match e.2 with | .str x _ => x | _ => Str.empty
def TxtE (w : World) (e : Int × Value) : Prop := ∃ x tk, e.2 = Value.str x tk ∧ e.1 = hashStr w x
abbrev tkd (P : Program) (w : World) := PySem.strKind P w
/-- the set of texts at a: T its members, n how many; its table can be walked -/
def SetT (w : World) (h : Heap) (a : Addr) (T : Str → Bool) (n : Nat) : Prop :=
  ∃ o es ep tb, h.get? a = some o ∧ o.ExactSet ∧ o.data = .set es ep tb ∧ (∀ e ∈ es.toList, TxtE w e) ∧ (es.toList.map txtOf).Nodup ∧ (∀ x, T x = true ↔ x ∈ es.toList.map txtOf) ∧
    es.size < scanBound ∧ tb.fits es.size = true ∧ es.size = n ∧ Ris tb.place.toList ∧ (w.params.followText "set-order" = true ∨ tb.led = true)
section
variable {P : Program} {w : World} {h h' : Heap} {a : Addr} {T : Str → Bool} {n : Nat}
theorem SetT.there (R : SetT w h a T n) (k : ∀ o, h.get? a = some o → h'.get? a = some o) : SetT w h' a T n := by
  obtain ⟨o, es, ep, tb, got, more⟩ := R
  exact ⟨o, es, ep, tb, k o got, more⟩
theorem SetT.same {T' : Str → Bool} (R : SetT w h a T n) (e : ∀ x, T' x = T x) : SetT w h a T' n := (funext e : T' = T) ▸ R
theorem txt_elems {l : List (Int × Value)} (g : ∀ e ∈ l, TxtE w e) : ElemsOf (tkd P w) l := fun e he => by
  obtain ⟨x, tk, h1, h2⟩ := g e he
  exact ⟨⟨x, by rw [h1]; exact strKind_is P w x tk, h2⟩, by rw [h1] <;> rfl⟩
theorem txt_is {e : Int × Value} (g : TxtE w e) (x : Str) : (tkd P w).is x e.2 = true ↔ txtOf e = x := by
  obtain ⟨y, tk, h1, _⟩ := g
  unfold txtOf
  rw [h1]
  show ((y == x) = true) ↔ y = x
  exact beq_iff_eq
theorem txt_mem {l : List (Int × Value)} (g : ∀ e ∈ l, TxtE w e) (x : Str) : x ∈ l.map txtOf ↔ ∃ e ∈ l, (tkd P w).is x e.2 = true := by
  rw [List.mem_map]
  exact ⟨fun ⟨e, he, q⟩ => ⟨e, he, (txt_is (g e he) x).2 q⟩, fun ⟨e, he, q⟩ => ⟨e, he, (txt_is (g e he) x).1 q⟩⟩
end
section
variable {P : Program} {w : World} {A : Around} {E : Value → Shared → Prop} {s : Shared} {a : Addr} {T : Str → Bool} {n : Nat}
theorem tail_txt {gv : Bool → Sem Unit} (hgv : ∀ (b : Bool) (t : Shared) (J : Unit → Shared → Prop), J () t → wpAny (model P w) A (gv b) J E t)
    {o : Obj} {es : Array (Int × Value)} {ep : Nat} {tb : SetTable} (got : s.heap.get? a = some o) (ex : o.ExactSet) (dat : o.data = .set es ep tb)
    {fs : Array (Int × Value)} {tc : SetTable} {T' : Str → Bool} (ent : ∀ e ∈ fs.toList, TxtE w e) (dis : (fs.toList.map txtOf).Nodup) (mem : ∀ x, T' x = true ↔ x ∈ fs.toList.map txtOf)
    (below : fs.size < scanBound) (fit : tc.fits fs.size = true) (ris : Ris tc.place.toList) (led : w.params.followText "set-order" = true ∨ tc.led = true) {dum : Bool} {R : Option Bool → Shared → Prop}
    (fin : ∀ h', Heap.SameBut a s.heap h' → SetT w h' a T' fs.size → R (some true) { s with heap := h' }) :
    wpAny (model P w) A (do
        storeSet a fs tc
        if (!dum && tc.tooFull) = true then do
            gv (relayAll tc fs (SetTable.grown fs.size)).2.2
            storeSet a (relayAll tc fs (SetTable.grown fs.size)).1 (relayAll tc fs (SetTable.grown fs.size)).2.1
            pure (some true)
          else pure (some true)) R E s := by
  refine wpAny_bind (wpAny_storeSet_of got dat ?_ (fits_of_scanBound below))
  have got1 := store_at (es' := fs) (t' := tc) got dat
  have but1 := Heap.SameBut.update s.heap a (Obj.putSet fs tc)
  split
  · have z1 := relayAll_perm tc fs (SetTable.grown fs.size)
    have z2 := relayAll_fits tc fs (SetTable.grown fs.size)
    have z3 := relayAll_ris tc fs (SetTable.grown fs.size)
    have z4 := relayAll_led tc fs (SetTable.grown fs.size)
    generalize relayAll tc fs (SetTable.grown fs.size) = W at z1 z2 z3 z4 ⊢
    obtain ⟨gs, td, gave⟩ := W
    dsimp only at z1 z2 z3 z4 ⊢
    have size : gs.size = fs.size := by rw [← Array.length_toList, z1.length_eq, Array.length_toList]
    refine wpAny_bind (hgv _ _ _ ?_)
    refine wpAny_bind (wpAny_storeSet_of got1 rfl ?_ (fits_of_scanBound (by rw [size]; exact below)))
    have got2 := store_at (es' := gs) (t' := td) got1 rfl
    refine wpAny_pure (fin _ (but1.trans (Heap.SameBut.update _ a _)) ⟨_, gs, _, td, got2, ex, rfl, fun e he => ent e (z1.mem_iff.mp he), (z1.map txtOf).nodup_iff.mpr dis, fun x => (mem x).trans (z1.map txtOf).mem_iff.symm, by rw [size]; exact below, z2, size, z3, ?_⟩)
    exact led.imp id fun y => by rw [z4]; exact y
  · exact wpAny_pure (fin _ but1 ⟨_, fs, _, tc, got1, ex, rfl, ent, dis, mem, below, fit, rfl, ris, led⟩)
theorem add_txt {x : Str} {tk : Tok} {Q : Bool → Shared → Prop} (R : SetT w s.heap a T n) (room : n + 1 < scanBound)
    (q : ∀ h', Heap.SameBut a s.heap h' → SetT w h' a (fun y => T y || decide (y = x)) (if T x = true then n else n + 1) → Q (!T x) { s with heap := h' }) :
    wpAny (model P w) A (setAddHashed a (.str x tk) ((tkd P w).hash x)) Q E s := by
  obtain ⟨o, es, ep, tb, got, ex, dat, ent, dis, mem, below, fit, num, ris, led⟩ := R
  have key : (tkd P w).is x (.str x tk) = true := strKind_is P w x tk
  have sca : (Value.str x tk).scannable = true := rfl
  have els : ElemsOf (tkd P w) es.toList := txt_elems ent
  unfold setAddHashed; unfold setAddHashedIn
  refine wpAny_holding (wpAny_bind (wpAny_setState_of got dat fit ?_))
  dsimp only
  rw [byScan_of sca below els]
  simp only [↓reduceIte]
  unfold setAddByScan
  refine wpAny_bind (wpAny_bind (wpAny_rule ?_))
  refine wpAny_bind (wpAny_setScan_of key got dat fit els ?_)
  cases fi : List.findIdx? (fun e => (tkd P w).is x e.2) es.toList with
  | some j =>
    dsimp only
    obtain ⟨hj, pj, _⟩ := List.findIdx?_eq_some_iff_getElem.mp fi
    have yes : T x = true := (mem x).2 ((txt_mem (P := P) (w := w) ent x).2 ⟨es.toList[j], List.getElem_mem hj, pj⟩)
    have r := q s.heap (Heap.SameBut.refl a s.heap) ⟨o, es, ep, tb, got, ex, dat, ent, dis, fun y => by
      rw [Bool.or_eq_true, decide_eq_true_eq, ← mem y]
      exact ⟨fun z => z.elim id (fun e => e ▸ yes), .inl⟩, below, fit, by rw [if_pos yes]; exact num, ris, led⟩
    rw [yes] at r
    exact wpAny_pure (wpAny_pure r)
  | none =>
    dsimp only
    have absent : x ∉ es.toList.map txtOf := fun z => by
      obtain ⟨e, he, y⟩ := (txt_mem (P := P) (w := w) ent x).1 z
      have c := List.findIdx?_eq_none_iff.mp fi e he
      rw [y] at c
      cases c
    have no : T x = false := Bool.eq_false_iff.mpr fun z => absent ((mem x).1 z)
    have gw : ∀ (b : Bool) {t : Shared} {J : Unit → Shared → Prop}, J () t → wpAny (model P w) A (match b with | true => rule "set.scan.the-table-gave-way" | false => pure ()) J E t :=
      fun b t J j => by cases b <;> first | exact wpAny_pure j | exact wpAny_rule j
    have z1 := layNew_perm tb es ((tkd P w).hash x) (.str x tk)
    have z2 := layNew_fits tb es ((tkd P w).hash x) (.str x tk)
    have z3 := layNew_ris tb es ((tkd P w).hash x) (.str x tk) ris
    have z4 := layNew_led tb es ((tkd P w).hash x) (.str x tk)
    generalize layNew tb es ((tkd P w).hash x) (.str x tk) = W at z1 z2 z3 z4 ⊢
    obtain ⟨fs, tc, dum, gave⟩ := W
    dsimp only at z1 z2 z3 z4 ⊢
    rw [Array.toList_push] at z1
    have pc : fs.toList.Perm (((tkd P w).hash x, Value.str x tk) :: es.toList) := z1.trans (List.perm_append_singleton _ _)
    have pk : (fs.toList.map txtOf).Perm (x :: es.toList.map txtOf) := pc.map txtOf
    have ent1 : ∀ e ∈ fs.toList, TxtE w e := fun e he => (List.mem_cons.mp (pc.mem_iff.mp he)).elim (fun z => z ▸ ⟨x, tk, rfl, rfl⟩) (ent e)
    have dis1 : (fs.toList.map txtOf).Nodup := pk.nodup_iff.mpr (List.nodup_cons.mpr ⟨absent, dis⟩)
    have mem1 : ∀ y, (T y || decide (y = x)) = true ↔ y ∈ fs.toList.map txtOf := fun y => by
      rw [Bool.or_eq_true, decide_eq_true_eq, mem y, pk.mem_iff, List.mem_cons]
      exact Or.comm
    have size : fs.size = n + 1 := by rw [← Array.length_toList, pc.length_eq, List.length_cons, Array.length_toList, num]
    have below1 : fs.size < scanBound := by rw [size]; exact room
    have led1 : w.params.followText "set-order" = true ∨ tc.led = true := led.imp id fun z => by rw [z4]; exact z
    have fin : ∀ h', Heap.SameBut a s.heap h' → SetT w h' a (fun y => T y || decide (y = x)) fs.size → Q true { s with heap := h' } := fun h' sb r => by
      have j := q h' sb
      rw [no] at j
      rw [size] at r
      exact j r
    refine wpAny_bind (gw _ ?_)
    split
    · refine wpAny_bind ?_
      rw [hashByValue_scannable 8 sca]
      refine wpAny_pure (tail_txt ?_ got ex dat ent1 dis1 mem1 below1 ?_ ?_ ?_ ?_)
      · intro b t J j; cases b <;> first | exact wpAny_pure j | exact wpAny_rule j
      · first | (split <;> first | exact z2 | exact SetTable.fits_plain_off z2) | exact z2
      · first | (split <;> exact z3) | exact z3
      · first | (split <;> exact led1) | exact led1
      · intro h' sb r; dsimp only; exact wpAny_pure (fin h' sb r)
    · refine wpAny_bind (wpAny_pure ?_)
      simp only [↓reduceIte]
      refine tail_txt ?_ got ex dat ent1 dis1 mem1 below1 z2 z3 led1 ?_
      · intro b t J j; cases b <;> first | exact wpAny_pure j | exact wpAny_rule j
      · intro h' sb r; dsimp only; exact wpAny_pure (fin h' sb r)
theorem setT_new {h : Heap} {xs : List Str} (got : h.get? a = some (set0 w)) : SetT w h a (fun y => decide (y ∈ xs.take 0)) 0 :=
  ⟨_, #[], 0, _, got, ⟨rfl, rfl, rfl⟩, rfl, (fun e he => by simp at he), (by simp), (fun k => by simp), (by decide), (by rfl), rfl, List.Pairwise.nil, by
    show _ ∨ (!w.params.followText "set-order") = true
    cases w.params.followText "set-order"
    · exact .inr rfl
    · exact .inl rfl⟩
theorem update_txts {I : Addr} {fp wr : List Addr} {G : Array GenState → Array GenState → Prop} {n : Nat} {Pv : Nat → Value → Prop} {St : Nat → Shared → Prop} {R : Result → Shared → Prop}
    (W : WalksS P w A.in1 I fp wr G n Pv St) (D : Addr) (out : D ∉ fp) (xs : List Str) (len : n = xs.length) (below : xs.length + 1 < scanBound) (val : ∀ i v, Pv i v → ∃ x t, xs[i]? = some x ∧ v = .str x t) :
    ∀ (k i : Nat) (s : Shared), n - i = k → i ≤ n → St i s → (∃ c, c ≤ i ∧ SetT w s.heap D (fun y => decide (y ∈ xs.take i)) c) →
      (∀ s' c, Moved (D :: wr) G s s' → c ≤ n → SetT w s'.heap D (fun y => decide (y ∈ xs)) c → R (.ok (.ret .none)) s') →
      codeAny (model P w) A (.builtin "set.update.loop" ⟨[.ref D, .ref I], []⟩) R s := by
  have notw : D ∉ wr := fun z => out (W.sub _ z)
  have sub : ∀ b ∈ wr, b ∈ D :: wr := fun b hb => List.mem_cons_of_mem _ hb
  intro k
  induction k with
  | zero =>
    intro i s hk hi st ⟨c, hc, hS⟩ q
    obtain rfl : i = n := by omega
    refine codeAny_builtin F.entry_set_update_loop ?_
    rw [Around.under_plainId F.plain_set_update_loop _]
    show wpAny _ A.in1 (pyNext (.ref I) >>= _) _ _ s
    refine wpAny_bind (W.done s _ _ st fun t moved => ?_)
    show wpAny _ A.in1 (ret Value.none) _ _ t
    rw [List.take_of_length_le (by omega : xs.length ≤ i)] at hS
    exact wpAny_pure (q t c (moved.mono sub) hc (hS.there fun o e => moved.heap D o notw e))
  | succ k ih =>
    intro i s hk hi st ⟨c, hc, hS⟩ q
    have lt : i < n := by omega
    refine codeAny_builtin F.entry_set_update_loop ?_
    rw [Around.under_plainId F.plain_set_update_loop _]
    show wpAny _ A.in1 (pyNext (.ref I) >>= _) _ _ s
    refine wpAny_bind (W.item i s _ _ lt st fun v t hP st' moved => ?_)
    obtain ⟨x, tk, hx, rfl⟩ := val i v hP
    have hS' : SetT w t.heap D (fun y => decide (y ∈ xs.take i)) c := hS.there fun o e => moved.heap D o notw e
    show wpAny _ A.in1 (holding [Value.str x tk] (setAdd D (.str x tk)) >>= _) _ _ t
    refine wpAny_bind (wpAny_holding ?_)
    unfold setAdd
    refine wpAny_holding (wpAny_bind ((tkd P w).pyHash (k := x) (strKind_is _ _ _ _) ?_))
    refine add_txt (s := { t with toks := t.toks + 1 }) hS' (by omega) fun h' sb r => ?_
    have r3 : SetT w h' D (fun y => decide (y ∈ xs.take (i + 1))) (if decide (x ∈ xs.take i) = true then c else c + 1) := r.same fun y => by
      rw [List.take_add_one, hx]
      simp [List.mem_append]
    have c3 : (if decide (x ∈ xs.take i) = true then c else c + 1) ≤ i + 1 := by split <;> omega
    refine wpAny_pure ⟨plainId_quiet F.plain_set_update_loop _, ih (i + 1) _ (by omega) lt (W.frame _ t _ _ st' (Nat.le_succ _) fun b hb o e => ?_) ⟨_, c3, r3⟩ fun t2 c2 m2 hc2 hS2 => ?_⟩
    · rw [sb.2 b (fun z : b = D => out (by rw [← z]; exact hb))]; exact e
    · refine q t2 c2 (Moved.trans W.gtrans ((moved.mono sub).then_heap (Nat.le_succ _) fun b o hb e => ?_) m2) hc2 hS2
      rw [sb.2 b (fun z : b = D => hb (by rw [z]; exact List.mem_cons_self))]; exact e
theorem loop_txts {l : Addr} {items : Array Value} {xs : List Str} (cool : A.handled = none) (hl : s.heap.IsList l items) (hi : StrsAre items.toList xs) (below : xs.length + 1 < scanBound) :
    ∀ (A' : Around) (R : Result → Shared → Prop) (s1 : Shared), A'.handled = A.handled → s1.heap = (s.heap.push (set0 w)).push (lit0 l) →
      (∀ s', Moved [s.heap.objs.size, s.heap.objs.size + 1] (fun a b => b = a) s1 s' → (∃ c, c ≤ xs.length ∧ SetT w s'.heap s.heap.objs.size (fun y => decide (y ∈ xs)) c) → R (.ok (.ret .none)) s') →
      codeAny (model P w) A' (.builtin "set.update.loop" ⟨[.ref s.heap.objs.size, .ref (s.heap.objs.size + 1)], []⟩) R s1 := by
  intro A' R s1 hA e1 k
  have size : items.size = xs.length := by
    have q := StrsAre.length hi
    rwa [Array.length_toList] at q
  have low : l < s.heap.objs.size := Heap.lt_size hl.choose_spec.1
  have z1 : (s.heap.push (set0 w)).objs.size = s.heap.objs.size + 1 := Heap.size_push ..
  have g0 : s1.heap.get? s.heap.objs.size = some (set0 w) := e1 ▸ Heap.get?_push_of_some _ (Heap.get?_push_size _ rfl)
  have gI : s1.heap.get? (s.heap.objs.size + 1) = some (lit0 l) := by
    have q := Heap.get?_push_size (o := lit0 l) (s.heap.push (set0 w)) rfl
    rw [z1] at q
    exact e1 ▸ q
  have gl : s1.heap.IsList l items := e1 ▸ (hl.push _).push _
  have W := (Walks.list (prog := P) (w := w) (A := A'.in1) (by simp [hA, cool]) (s.heap.objs.size + 1) l (Nat.ne_of_lt (Nat.lt_succ_of_lt low)) items).toS
  refine update_txts W s.heap.objs.size ?_ xs size below ?_ (items.size - 0) 0 s1 rfl (Nat.zero_le _) ⟨⟨_, gI, rfl, rfl⟩, gl⟩ ⟨0, Nat.le_refl 0, setT_new g0⟩ fun s' c hm hc hS => k s' hm ⟨c, by omega, hS⟩
  · intro z
    rcases List.mem_cons.mp z with z | z
    · exact absurd z (Nat.ne_of_lt (Nat.lt_succ_self _))
    · exact absurd (List.mem_singleton.mp z) (Nat.ne_of_gt low)
  · intro i v hv
    have lt : i < xs.length := by rw [← size]; exact (Array.getElem?_eq_some_iff.mp hv).1
    obtain ⟨t, e⟩ := SS.strs_at hi i v (by rw [Array.getElem?_toList]; exact hv)
    refine ⟨xs[i], t, List.getElem?_eq_getElem lt, ?_⟩
    rw [e, List.getD_eq_getElem?_getD, List.getElem?_eq_getElem lt]
    rfl
theorem sort_txts {n : Nat} {Q : Value → Shared → Prop} (R : SetT w s.heap a T n) (cool : A.handled = none)
    (q : ∀ t p (out : Array Value) (c : Nat) (ys : List Str), (∀ b o, s.heap.get? b = some o → t.heap.get? b = some o) → t.gens = s.gens → t.os = s.os → s.heap.objs.size ≤ p → t.heap.get? p = some (seqObj "list" out c) →
      StrsAre out.toList ys → sortedS ys = true → ys.Nodup → (∀ x, x ∈ ys ↔ T x = true) → ys.length = n → Q (.ref p) t) : wpAny (model P w) A (call (.builtin "sorted") [.ref a]) Q E s := by
  obtain ⟨o, es, ep, tb, got, ex, dat, ent, dis, mem, below, fit, num, ris, led⟩ := R
  refine Calls.call_function_entry kind_sorted plain_sorted entry_sorted (args_sorted1 _) ?_
  unfold Builtin.«sorted»
  refine wpAny_bind (m := checkCount "sorted" 1 1 _) (wpAny_pure (wpAny_bind ?_))
  refine collect_set (A := A.in1) cool ⟨o, got, ex.1, dat⟩ fit below ris led fun t vals keep big gens os perm => ?_
  have many : vals.length = n := by rw [perm.length_eq, List.length_map, Array.length_toList]; exact num
  have small : vals.length ≤ sizeLine := by
    rw [perm.length_eq, List.length_map, Array.length_toList]
    exact fits_of_scanBound below
  have txs : StrsAre vals (vals.map PyProof.Rows.strOf) := strsAre_map vals fun v hv => by
    obtain ⟨e, he, z⟩ := List.mem_map.mp (perm.mem_iff.mp hv)
    obtain ⟨x, tk, h1, _⟩ := ent e he
    exact ⟨x, tk, by rw [← z]; exact h1⟩
  have perm2 := perm.map PyProof.Rows.strOf
  rw [List.map_map] at perm2
  have et : es.toList.map (PyProof.Rows.strOf ∘ fun e => e.2) = es.toList.map txtOf := List.map_congr_left fun e he => by
    obtain ⟨x, tk, h1, _⟩ := ent e he
    show PyProof.Rows.strOf e.2 = txtOf e
    unfold txtOf
    rw [h1]
    rfl
  rw [et] at perm2
  refine wpAny_bind (wpAny_newList (wpAny_bind (wpAny_holding ?_)) small)
  have got2 : (t.heap.push (seqObj "list" vals.toArray 0)).get? t.heap.objs.size = some (seqObj "list" vals.toArray 0) := Heap.get?_push_size _ rfl
  refine wpAny_call_entry slot_list_sort ⟨_, got2, rfl⟩ entry_list_sort ?_ (args_list_sort _)
  refine list_sort_treeKAny strKind_oneLt got2 txs.keysOf (fun v1 v2 rest e => keyKind_strs (by rw [← e]; exact txs)) small fun st' hp hs => ⟨_, rfl, wpAny_pure ⟨_, rfl, ?_⟩⟩
  obtain ⟨ys, k1, k2, k3⟩ := sorted_out_str txs hp hs
  obtain ⟨c, got3⟩ := sortedHeap_at (vs := vals) (out := (arrOf st').map (·.2)) got2
  have pn := k2.trans perm2
  refine q _ t.heap.objs.size _ c ys (fun b u z => ?_) gens os big got3 k1 k3 (pn.nodup_iff.mpr dis) (fun x => pn.mem_iff.trans (mem x).symm) (by rw [pn.length_eq, List.length_map, Array.length_toList]; exact num)
  have z1 := keep b u z
  have z2 := Heap.lt_size z1
  show (sortedHeap (t.heap.push (seqObj "list" vals.toArray 0)) t.heap.objs.size vals ((arrOf st').map (·.2))).get? b = some u
  rw [sortedHeap_old (Nat.ne_of_lt z2) (by rw [size_push']; exact Nat.lt_succ_of_lt z2)]
  exact Heap.get?_push_of_some _ z1
end
/-- the set object -/
def SetTO (w : World) (a : Addr) (T : Str → Bool) (n : Nat) : HO := .ext fun h => SetT w h a T n
theorem setT_ok {w : World} {P : Program} {H : Hp} {h : Heap} {a : Addr} {T : Str → Bool} {n : Nat} (R : SetT w h a T n) : ObjOk P w H h a (SetTO w a T n) :=
  ⟨R, R.imp fun o z => by obtain ⟨_, _, _, g, _⟩ := z; exact g, fun h1 h2 p k => SetT.there p k⟩
section
variable {X : Cx}
def rSetT (K : PySem.W.Frag) (w : World) : List V → Hp → VK → Prop := fun xs H Q => ∃ (l : Addr) (ys : List Str), xs = [.ref l] ∧ SqL K H l (ys.map V.str) ∧ ys.length < 4000 ∧
  ∀ p c, H p = none → c ≤ ys.length → Q (.ref p) (upd H p (SetTO w p (fun y => decide (y ∈ ys)) c))
theorem cr_setT (cool : X.calm = true) : CallR X (.type "set") (rSetT X.K X.w) := by
  intro pins s σ H xs us Q I r h
  obtain ⟨l, ys, rfl, hl, few, q⟩ := h
  obtain ⟨u, rfl, ru⟩ := vals1 r
  cases (show u = Value.ref l from ru)
  obtain ⟨its, rv, pl, hz⟩ := I.list hl
  have hi : StrsAre its.toArray.toList ys := by simpa using rv.strs
  refine set_of_list (P := X.prog) (w := X.w) (Fin := fun h => ∃ c, c ≤ ys.length ∧ SetT X.w h s.heap.objs.size (fun y => decide (y ∈ ys)) c) pl.isList (loop_txts (I.ok.hd cool) pl.isList hi (by unfold scanBound; omega)) fun h' tk hF hk => ?_
  obtain ⟨c, hc', R⟩ := hF
  have fr := I.hok.fresh (Nat.le_refl s.heap.objs.size)
  exact ⟨.ref s.heap.objs.size, _, I.laid (t' := tk) hk (Nat.le_refl _) (setT_ok R), rfl, q _ _ fr hc'⟩
def rSortT (w : World) : List V → Hp → VK → Prop := fun vs H Q => ∃ (a : Addr) (T : Str → Bool) (n : Nat), vs = [V.ref a] ∧ H a = some (SetTO w a T n) ∧ n ≤ 4000 ∧
  ∀ (ys : List Str) (p : Addr), sortedS ys = true → ys.Nodup → (∀ x, x ∈ ys ↔ T x = true) → H p = none → Q (.ref p) (upd H p (.lst (ys.map V.str)))
theorem cr_sortT (cool : X.calm = true) : CallR X (.builtin "sorted") (rSortT X.w) := by
  intro pins s σ H vs us Q I r h
  obtain ⟨a, T, n, rfl, ha, few, q⟩ := h
  rw [Vals.ref1 r]
  refine sort_txts (I.hok a _ ha).1 (I.ok.hd cool) fun t p out c ys keep gens os big got txs up dis mem many => ?_
  have free : H p = none := I.hok.fresh big
  have size : (ys.map V.str).length ≤ sizeLine := by rw [List.length_map, many, sizeLine_eq]; omega
  obtain ⟨th, tg, td, tt, to⟩ := t
  cases (show to = s.os from os)
  have keep' : ∀ b o, s.heap.get? b = some o → th.get? b = some o := keep
  have J := I.call (H' := upd H p (.lst (ys.map V.str))) (h' := th) (g' := tg) (d' := td) (t' := tt) (ch := []) (Un.laid keep' big free) (I.hok.laid keep' big ⟨size, out.toList, c, vals_of_strs txs, got⟩) (by rw [show tg = s.gens from gens]; exact I.bare) (fun _ z => nomatch z)
  exact ⟨.ref p, _, J, rfl, q ys p up dis mem free⟩
end
/-- sorted(set(xs)), xs a list of texts -/
theorem r_sortSetT {K : PySem.W.Frag} {w : World} {σ : L2.St} {H : Hp} {Q : VK} {l : Addr} {xs : List Str} (hl : SqL K H l (xs.map V.str)) (hn : xs.length < 4000)
    (k : ∀ (ys : List Str) (p : Addr) (H' : Hp), sortedS ys = true → ys.Nodup → (∀ x, x ∈ ys ↔ x ∈ xs) → Same H H' → H p = none → H' p = some (.lst (ys.map V.str)) → Q (.ref p) H') :
    rSetT K w [.ref l] H fun x H1 => tNil σ H1 fun zs H2 => rSortT w (x :: zs) H2 Q := by
  refine ⟨l, xs, rfl, hl, hn, fun p c hp hc => ?_⟩
  refine r_nil ⟨p, _, c, rfl, upd_same, by omega, fun ys p2 hs hd hm h2 => ?_⟩
  have h3 : H p2 = none := by
    by_cases e : p2 = p
    · rw [e, upd_same] at h2; cases h2
    · rwa [upd_ne e] at h2
  exact k ys p2 _ hs hd (fun z => by rw [hm]; simp) ((same_new hp).trans (same_new h2)) h3 upd_same
end CP

set_option Elab.async false
set_option linter.all false
set_option maxRecDepth 100000
set_option maxHeartbeats 4000000
set_option autoImplicit false
/-! == and != of equal data of any shape: lists, tuples, dicts -/
namespace CP
open PySem L2 PySem.Spec PyProof.Rows PySem.SeqAt
open MeetsSeq3 (plain_eq_loop entry_eq_loop)
section
variable {prog : Program} {w : World}
/-- != of two tuples whose items are equal -/
theorem tup_ne_same (l b : Addr) (us vs : Array Value) (m m2 : Nat) (dd dd2 : Option Addr) (sl sl2 : Array (Option Value)) (sz : us.size = vs.size) :
    MeetsIn prog w (Builtin.«tuple.__ne__» ⟨[.ref l, .ref b], []⟩)
      (fun A R s => s.heap.get? l = some { cls := .type "tuple", dict := dd, data := .seq us m, slots := sl } ∧ s.heap.get? b = some { cls := .type "tuple", dict := dd2, data := .seq vs m2, slots := sl2 } ∧
        (∀ j (h1 : j < us.size) (h2 : j < vs.size), EqP prog w A.in1 s us[j] vs[j] true) ∧ R (.ok (.ret (.bool false))) s) := by
  intro A R s h
  obtain ⟨hp, g, d, tk, os⟩ := s
  obtain ⟨hl, hb, he, h⟩ := h
  have f2 := AutoSeq1.sub_tuple_tuple
  have zl : (us.toList.zip vs.toList).length = us.size := by simp [sz]
  wp_walk using wpAny_loadPart' hl, wpAny_loadPart' hb, wpAny_forIn_list _ (fun rest b s' => b.1 = none ∧ s' = ⟨hp, g, d, tk, os⟩ ∧ ∃ i, rest = (us.toList.zip vs.toList).drop i) _
  case turn =>
    rintro ⟨y, x⟩ rest c s' ⟨hc, rfl, i, hz⟩
    have lt : i < (us.toList.zip vs.toList).length := by
      rcases Nat.lt_or_ge i (us.toList.zip vs.toList).length with k | k
      · exact k
      · rw [List.drop_of_length_le k] at hz; cases hz
    have l1 : i < us.size := zl ▸ lt
    have l2 : i < vs.size := sz ▸ l1
    rw [List.drop_eq_getElem_cons lt] at hz
    injection hz with hyx more
    have ey : y = us[i] := by simpa using congrArg Prod.fst hyx
    have ex : x = vs[i] := by simpa using congrArg Prod.snd hyx
    subst ey ex
    refine wpAny_bind (he i l1 l2 _ _ ?_)
    wp_walk
    exact ⟨rfl, rfl, i + 1, more⟩
  case fin =>
    rintro ⟨b1, b2⟩ s' ⟨hc, rfl, i, hz⟩
    simp only at hc
    subst hc
    wp_walk
    simpa [Builtin.Tuple.tupleCompareSizes, bne, sz] using h
  case h =>
    exact ⟨rfl, rfl, 0, rfl⟩
theorem rc_tup_ne {A : Around} {s : Shared} {l b : Addr} {us vs : Array Value} (hl : s.heap.IsTuple l us) (hb : s.heap.IsTuple b vs) (sz : us.size = vs.size) (hu : A.units < cLine)
    (he : ∀ j (h1 : j < us.size) (h2 : j < vs.size), EqP prog w A.in1 s us[j] vs[j] true) (E Q : Value → Shared → Prop) (h : Q (.bool false) s) : wpAny (model prog w) A (richCompare .NotEq (.ref l) (.ref b)) Q E s := by
  obtain ⟨⟨c1, d1, x1, s1⟩, o1, e1, m1, z1⟩ := id hl
  obtain ⟨⟨c2, d2, x2, s2⟩, o2, e2, m2, z2⟩ := id hb
  simp only at e1 z1 e2 z2
  subst e1 z1 e2 z2
  exact wpAny_richCompare_same_room (op := .NotEq) ⟨_, o1, rfl⟩ ⟨_, o2, rfl⟩ F.slot_tuple_ne (call_meetsIn F.slot_tuple_ne ⟨_, o1, rfl⟩ F.entry_tuple_ne (F.args_tuple_ne_2 _ _) (tup_ne_same l b us vs m1 m2 d1 d2 s1 s2 sz)
    ⟨o1, o2, he, show Value.bool false ≠ Value.notImplemented ∧ Q (.bool false) s from ⟨(fun x => nomatch x), h⟩⟩) hu
/-- the loop of two lists whose items are equal -/
theorem lst_ne_loop (l b : Addr) (us vs : Array Value) (m m2 : Nat) (dd dd2 : Option Addr) (sl sl2 : Array (Option Value)) (sz : us.size = vs.size) :
    ∀ k i : Nat, us.size - i = k → MeetsIn prog w (Builtin.«list.__eq__.loop» ⟨[.ref l, .ref b, rawInt i, rawInt 3], []⟩)
      (fun A R s => s.heap.get? l = some { cls := .type "list", dict := dd, data := .seq us m, slots := sl } ∧ s.heap.get? b = some { cls := .type "list", dict := dd2, data := .seq vs m2, slots := sl2 } ∧
        (∀ j (h1 : j < us.size) (h2 : j < vs.size), EqP prog w A.in1 s us[j] vs[j] true) ∧ R (.ok (.ret (.bool false))) s)
  | 0, i, hk => by
    intro A R s h
    obtain ⟨hp, g, d, tk, os⟩ := s
    obtain ⟨hl, hb, he, h⟩ := h
    wp_walk using wpAny_loadPart' hl, wpAny_loadPart' hb
    have q1 : us[((i : Nat) : Int).toNat]? = none := by simp; omega
    have q2 : vs[((i : Nat) : Int).toNat]? = none := by simp; omega
    rw [q1, q2]
    wp_walk using wpAny_loadPart' hl, wpAny_loadPart' hb
    show R (.ok (.ret (.bool (us.size != vs.size)))) _
    rw [sz]
    simpa using h
  | k + 1, i, hk => by
    intro A R s h
    obtain ⟨hp, g, d, tk, os⟩ := s
    obtain ⟨hl, hb, he, h⟩ := h
    wp_walk using wpAny_loadPart' hl, wpAny_loadPart' hb
    have l1 : i < us.size := by omega
    have l2 : i < vs.size := by omega
    have q1 : us[((i : Nat) : Int).toNat]? = some us[i] := by simp [l1]
    have q2 : vs[((i : Nat) : Int).toNat]? = some vs[i] := by simp [l2]
    have q3 : ((i : Int) + 1) = ((i + 1 : Nat) : Int) := by push_cast; rfl
    rw [q1, q2]
    refine wpAny_bind (he i l1 l2 _ _ ?_)
    wp_walk
    rw [q3]
    exact ⟨plainId_quiet plain_eq_loop _, codeAny_builtin entry_eq_loop (by
      rw [Around.under_plainId plain_eq_loop _]
      exact lst_ne_loop l b us vs m m2 dd dd2 sl sl2 sz k (i + 1) (by omega) A R _ ⟨hl, hb, he, h⟩)⟩
theorem lst_ne_same (l b : Addr) (us vs : Array Value) (m m2 : Nat) (dd dd2 : Option Addr) (sl sl2 : Array (Option Value)) (sz : us.size = vs.size) :
    MeetsIn prog w (Builtin.«list.__ne__» ⟨[.ref l, .ref b], []⟩)
      (fun A R s => s.heap.get? l = some { cls := .type "list", dict := dd, data := .seq us m, slots := sl } ∧ s.heap.get? b = some { cls := .type "list", dict := dd2, data := .seq vs m2, slots := sl2 } ∧
        (∀ j (h1 : j < us.size) (h2 : j < vs.size), EqP prog w A.in1 s us[j] vs[j] true) ∧ R (.ok (.ret (.bool false))) s) := by
  intro A R s h
  obtain ⟨hp, g, d, tk, os⟩ := s
  obtain ⟨hl, hb, he, h⟩ := h
  have f3 := AutoSeq1.sub_list_list
  have hne : ¬ (us.size != vs.size) = true := by simp [sz]
  wp_walk using wpAny_loadPart' hl, wpAny_loadPart' hb
  exact ⟨plainId_quiet plain_eq_loop _, codeAny_builtin entry_eq_loop (by
    rw [Around.under_plainId plain_eq_loop _]
    exact lst_ne_loop l b us vs m m2 dd dd2 sl sl2 sz _ 0 rfl A R _ ⟨hl, hb, he, h⟩)⟩
theorem rc_lst_ne {A : Around} {s : Shared} {l b : Addr} {us vs : Array Value} (hl : s.heap.IsList l us) (hb : s.heap.IsList b vs) (sz : us.size = vs.size) (hu : A.units < cLine)
    (he : ∀ j (h1 : j < us.size) (h2 : j < vs.size), EqP prog w A.in1 s us[j] vs[j] true) (E Q : Value → Shared → Prop) (h : Q (.bool false) s) : wpAny (model prog w) A (richCompare .NotEq (.ref l) (.ref b)) Q E s := by
  obtain ⟨⟨c1, d1, x1, s1⟩, o1, e1, m1, z1⟩ := id hl
  obtain ⟨⟨c2, d2, x2, s2⟩, o2, e2, m2, z2⟩ := id hb
  simp only at e1 z1 e2 z2
  subst e1 z1 e2 z2
  exact wpAny_richCompare_same_room (op := .NotEq) ⟨_, o1, rfl⟩ ⟨_, o2, rfl⟩ F.slot_list_ne (call_meetsIn F.slot_list_ne ⟨_, o1, rfl⟩ F.entry_list_ne (F.args_list_ne_2 _ _) (lst_ne_same l b us vs m1 m2 d1 d2 s1 s2 sz)
    ⟨o1, o2, he, show Value.bool false ≠ Value.notImplemented ∧ Q (.bool false) s from ⟨(fun x => nomatch x), h⟩⟩) hu
theorem rc_tup_eq {A : Around} {s : Shared} {l b : Addr} {us vs : Array Value} (hl : s.heap.IsTuple l us) (hb : s.heap.IsTuple b vs) (sz : us.size = vs.size) (hu : A.units < cLine)
    (he : ∀ j (h1 : j < us.size) (h2 : j < vs.size), EqP prog w A.in1 s us[j] vs[j] true) (E Q : Value → Shared → Prop) (h : Q (.bool true) s) : wpAny (model prog w) A (richCompare .Eq (.ref l) (.ref b)) Q E s :=
  GQ.rc_tupG sz hu (fun _ t => t = s) hl hb (fun i h1 h2 t e => by
    subst e
    exact he i h1 h2 E _ ⟨rfl, rfl⟩) (fun t e => by subst e; exact h) rfl
end
/-! equal values: of nesting below n -/
/-- two lists, two tuples of equal items; two dicts of the same keys whose values are equal -/
def SqR (K : PySem.W.Frag) (H : Hp) (E : V → V → Prop) (x y : V) : Prop :=
  (∃ a b xs ys, x = .ref a ∧ y = .ref b ∧ SqL K H a xs ∧ SqL K H b ys ∧ Paired E xs ys) ∨ (∃ a b xs ys, x = .ref a ∧ y = .ref b ∧ SqT K H a xs ∧ SqT K H b ys ∧ Paired E xs ys) ∨
    ∃ a b ks ls, x = .ref a ∧ y = .ref b ∧ H a = some (.dK ks) ∧ H b = some (.dK ls) ∧ ks.length = ls.length ∧ ∀ p ∈ ks, ∃ u, valV ls p.1 = some u ∧ E p.2 u
def SqV (K : PySem.W.Frag) (H : Hp) : Nat → V → V → Prop
  | 0 => fun _ _ => False
  | n + 1 => fun x y => (x = y ∧ flatB x = true) ∨ (∃ a, x = .ref a ∧ y = .ref a) ∨ SqR K H (SqV K H n) x y
section
variable {X : Cx} {pins : List (Addr × Obj)} {σ : L2.St} {H : Hp} {s : Shared}
theorem sqR_eq (I : Inv X pins σ H s) {A : Around} {F : V → V → Prop} (hu : A.units < cLine) (ih : ∀ x y v u, F x y → RelV x v → RelV y u → EqP X.prog X.w A.in1 s v u true) {x y : V} {v u : Value} (h : SqR X.K H F x y) (rx : RelV x v) (ry : RelV y u)
    (E Q : Value → Shared → Prop) (q : Q (.bool true) s) : wpAny (model X.prog X.w) A (richCompare .Eq v u) Q E s := by
  rcases h with h | ⟨a, b, xs, ys, rfl, rfl, ha, hb, hp⟩ | h
  · exact eqR_run I hu ih (.inl h) rx ry E Q q
  · cases (show v = Value.ref a from rx)
    cases (show u = Value.ref b from ry)
    obtain ⟨us, r1, p1, _⟩ := I.tuple ha
    obtain ⟨ws, r2, p2, _⟩ := I.tuple hb
    have sz : us.toArray.size = ws.toArray.size := by
      rw [List.size_toArray, List.size_toArray, ← r1.length, ← r2.length]
      exact Paired.length hp
    exact rc_tup_eq p1 p2 sz hu (fun j h1 h2 => by simpa using items_run ih hp r1 r2 j (by simpa using h1) (by simpa using h2)) E Q q
  · exact eqR_run I hu ih (.inr h) rx ry E Q q
theorem sqV_eq (I : Inv X pins σ H s) : ∀ (n : Nat) (A : Around), A.units + n < cLine → ∀ (x y : V) (v u : Value), SqV X.K H n x y → RelV x v → RelV y u → EqP X.prog X.w A s v u true
  | 0, _, _, _, _, _, _, h, _, _ => (show False from h).elim
  | n + 1, A, hu, x, y, v, u, h, rx, ry => by
    rcases h with ⟨rfl, f⟩ | ⟨a, rfl, rfl⟩ | h
    · exact (eqAt_same rx ry f).eqP
    · cases (show v = Value.ref a from rx)
      cases (show u = Value.ref a from ry)
      exact (EqAt.same _).eqP
    · have step := sqR_eq I (A := A) (by omega) (sqV_eq I n A.in1 (by show A.units + 1 + n < cLine; omega)) h rx ry
      obtain ⟨a, b, rfl, rfl⟩ : ∃ a b, x = .ref a ∧ y = .ref b := by
        rcases h with ⟨a, b, _, _, e1, e2, _⟩ | ⟨a, b, _, _, e1, e2, _⟩ | ⟨a, b, _, _, e1, e2, _⟩ <;> exact ⟨a, b, e1, e2⟩
      cases (show v = Value.ref a from rx)
      cases (show u = Value.ref b from ry)
      by_cases e : a = b
      · subst e
        exact (EqAt.same _).eqP
      · exact eqP_refs e step
end
section
variable {X : Cx}
/-- ==, != of equal lists and tuples -/
def rEqQ (K : PySem.W.Frag) : R2 := fun x y H Q => ∃ n, n ≤ 60 ∧ SqR K H (SqV K H n) x y ∧ Q (.bl true) H
def rNeQ (K : PySem.W.Frag) : R2 := fun x y H Q => ∃ n a b xs ys, n ≤ 60 ∧ x = .ref a ∧ y = .ref b ∧ ((SqL K H a xs ∧ SqL K H b ys) ∨ (SqT K H a xs ∧ SqT K H b ys)) ∧ Paired (SqV K H n) xs ys ∧ Q (.bl false) H
theorem op_eqQ (hu : X.A.units + 64 < cLine) : OpR X (compareOp .Eq) (rEqQ X.K) := by
  intro pins s σ H x y v u Q I rx ry h
  obtain ⟨n, hn, h, q⟩ := h
  exact sqR_eq I (A := X.A) (by omega) (sqV_eq I n X.A.in1 (by show X.A.units + 1 + n < cLine; omega)) h rx ry _ _ ⟨.bl true, H, I, rfl, q⟩
theorem op_neQ (hu : X.A.units + 64 < cLine) : OpR X (compareOp .NotEq) (rNeQ X.K) := by
  intro pins s σ H x y v u Q I rx ry h
  obtain ⟨n, a, b, xs, ys, hn, rfl, rfl, h, hp, q⟩ := h
  have ih := sqV_eq I n X.A.in1 (by show X.A.units + 1 + n < cLine; omega)
  cases (show v = Value.ref a from rx)
  cases (show u = Value.ref b from ry)
  have fin : (EP X pins σ Q) (.bool false) s := ⟨.bl false, H, I, rfl, q⟩
  rcases h with ⟨ha, hb⟩ | ⟨ha, hb⟩
  · obtain ⟨us, r1, p1, _⟩ := I.list ha
    obtain ⟨ws, r2, p2, _⟩ := I.list hb
    have sz : us.toArray.size = ws.toArray.size := by
      rw [List.size_toArray, List.size_toArray, ← r1.length, ← r2.length]
      exact Paired.length hp
    exact rc_lst_ne p1.isList p2.isList sz (by omega) (fun j h1 h2 => by simpa using items_run ih hp r1 r2 j (by simpa using h1) (by simpa using h2)) _ _ fin
  · obtain ⟨us, r1, p1, _⟩ := I.tuple ha
    obtain ⟨ws, r2, p2, _⟩ := I.tuple hb
    have sz : us.toArray.size = ws.toArray.size := by
      rw [List.size_toArray, List.size_toArray, ← r1.length, ← r2.length]
      exact Paired.length hp
    exact rc_tup_ne p1 p2 sz (by omega) (fun j h1 h2 => by simpa using items_run ih hp r1 r2 j (by simpa using h1) (by simpa using h2)) _ _ fin
/-- ==, != of any of these: plain values, data without dicts, equal data -/
def rEqX (K : PySem.W.Frag) : R2 := fun x y H Q => rEq x y H Q ∨ rEqD K x y H Q ∨ rEqQ K x y H Q
def rNeX (K : PySem.W.Frag) : R2 := fun x y H Q => rNe x y H Q ∨ rNeD K x y H Q ∨ rNeQ K x y H Q
theorem op_eqX (hu : X.A.units + 64 < cLine) : OpR X (compareOp .Eq) (rEqX X.K) := by
  intro pins s σ H x y v u Q I rx ry h
  rcases h with h | h | h
  · exact op_eq pins s σ H x y v u Q I rx ry h
  · exact op_eqD hu pins s σ H x y v u Q I rx ry h
  · exact op_eqQ hu pins s σ H x y v u Q I rx ry h
theorem op_neX (hu : X.A.units + 64 < cLine) : OpR X (compareOp .NotEq) (rNeX X.K) := by
  intro pins s σ H x y v u Q I rx ry h
  rcases h with h | h | h
  · exact op_ne pins s σ H x y v u Q I rx ry h
  · exact op_neD hu pins s σ H x y v u Q I rx ry h
  · exact op_neQ hu pins s σ H x y v u Q I rx ry h
end
section
variable {K : PySem.W.Frag} {H : Hp} {Q : VK} {a b : Str} {i j : Int}
theorem txt_dec : decide (V.str a = V.str b) = decide (a = b) := by
  by_cases h : a = b
  · subst h; simp
  · rw [decide_eq_false h, decide_eq_false fun z => h (V.str.inj z)]
theorem r_eqXS (q : Q (.bl (decide (a = b))) H) : rEqX K (.str a) (.str b) H Q := .inl ⟨rfl, by rw [txt_dec]; exact q⟩
theorem r_neXS (q : Q (.bl (!decide (a = b))) H) : rNeX K (.str a) (.str b) H Q := .inl ⟨rfl, by rw [txt_dec]; exact q⟩
theorem r_eqXI (q : Q (.bl (decide (i = j))) H) : rEqX K (.int i) (.int j) H Q := .inl (r_eqI q)
theorem r_neXI (q : Q (.bl (!decide (i = j))) H) : rNeX K (.int i) (.int j) H Q := .inl (r_neI q)
end
end CP

set_option Elab.async false
set_option linter.all false
set_option maxRecDepth 100000
set_option maxHeartbeats 4000000
set_option autoImplicit false
/-! texts in order; lists of texts as values -/
namespace CP
open L2 PySem PyProof.Rows
def sle (a b : Str) : Prop := ¬ (b.cps.toList < a.cps.toList)
instance (a b : Str) : Decidable (sle a b) := inferInstanceAs (Decidable (¬ _))
theorem sle_refl (a : Str) : sle a a := List.lt_irrefl _
theorem sle_total (a b : Str) : sle a b ∨ sle b a := by
  by_cases h : b.cps.toList < a.cps.toList
  · exact .inr (List.lt_asymm h)
  · exact .inl h
theorem sle_trans {a b c : Str} (h1 : sle a b) (h2 : sle b c) : sle a c := by
  unfold sle at *
  rw [List.not_lt] at *
  exact List.le_trans h1 h2
theorem sle_anti {a b : Str} (h1 : sle a b) (h2 : sle b a) : a = b := by
  unfold sle at *
  rw [List.not_lt] at *
  have e := List.le_antisymm h1 h2
  cases a; cases b
  simp only at e
  rw [Array.toList_inj.mp e]
theorem rising_of : ∀ {l : List Str} {p : Str}, risingS p l = true → (p :: l).Pairwise sle
  | [], p, _ => List.pairwise_singleton _ _
  | x :: l, p, h => by
    unfold risingS at h
    rw [Bool.and_eq_true] at h
    have ih := rising_of h.2
    have hp : sle p x := by
      have := h.1
      rw [Bool.not_eq_true', ltCps_eq, decide_eq_false_iff_not] at this
      exact this
    refine List.pairwise_cons.mpr ⟨fun y hy => ?_, ih⟩
    rcases List.mem_cons.mp hy with e | e
    · rw [e]; exact hp
    · exact sle_trans hp (List.rel_of_pairwise_cons ih e)
theorem sorted_pw {l : List Str} (h : sortedS l = true) : l.Pairwise sle := by
  cases l with
  | nil => exact List.Pairwise.nil
  | cons x l => exact rising_of h
/-- in order -/
def srt (l : List Str) : List Str := l.mergeSort fun a b => decide (sle a b)
theorem srt_perm (l : List Str) : (srt l).Perm l := List.mergeSort_perm l _
theorem srt_pw (l : List Str) : (srt l).Pairwise sle := by
  have h := List.pairwise_mergeSort (le := fun a b => decide (sle a b)) (fun a b c h1 h2 => decide_eq_true (sle_trans (of_decide_eq_true h1) (of_decide_eq_true h2))) (fun a b => by
    rcases sle_total a b with h | h
    · rw [decide_eq_true h]; rfl
    · rw [decide_eq_true h, Bool.or_true]) l
  exact h.imp fun h => of_decide_eq_true h
theorem srt_unique {l m : List Str} (hp : l.Perm m) (h1 : l.Pairwise sle) (h2 : m.Pairwise sle) : l = m :=
  List.Perm.eq_of_pairwise (le := sle) (fun a b _ _ => sle_anti) h1 h2 hp
theorem srt_of {l ys : List Str} (hp : ys.Perm l) (h : sortedS ys = true) : ys = srt l := srt_unique (hp.trans (srt_perm l).symm) (sorted_pw h) (srt_pw l)
theorem srt_congr {l m : List Str} (h : l.Perm m) : srt l = srt m := srt_unique ((srt_perm l).trans (h.trans (srt_perm m).symm)) (srt_pw l) (srt_pw m)
theorem srt_len (l : List Str) : (srt l).length = l.length := (srt_perm l).length_eq
theorem mem_srt {l : List Str} {x : Str} : x ∈ srt l ↔ x ∈ l := (srt_perm l).mem_iff
theorem srt_id {l : List Str} (h : l.Pairwise sle) : srt l = l := srt_unique (srt_perm l) (srt_pw l) h
theorem srt_srt (l : List Str) : srt (srt l) = srt l := srt_id (srt_pw l)
/-- each once -/
def nub : List Str → List Str
  | [] => []
  | x :: l => if x ∈ l then nub l else x :: nub l
theorem mem_nub {l : List Str} {x : Str} : x ∈ nub l ↔ x ∈ l := by
  induction l with
  | nil => exact Iff.rfl
  | cons a l ih =>
    unfold nub
    split
    · rename_i h
      rw [ih, List.mem_cons]
      exact ⟨.inr, fun z => z.elim (fun e => e ▸ h) id⟩
    · rw [List.mem_cons, List.mem_cons, ih]
theorem nub_nodup (l : List Str) : (nub l).Nodup := by
  induction l with
  | nil => exact List.Pairwise.nil
  | cons a l ih =>
    unfold nub
    split
    · exact ih
    · rename_i h
      exact List.nodup_cons.mpr ⟨fun z => h (mem_nub.mp z), ih⟩
/-- sorted(set(l)) -/
def sset (l : List Str) : List Str := srt (nub l)
theorem mem_sset {l : List Str} {x : Str} : x ∈ sset l ↔ x ∈ l := mem_srt.trans mem_nub
theorem sset_nodup (l : List Str) : (sset l).Nodup := (srt_perm _).nodup_iff.mpr (nub_nodup l)
theorem sset_pw (l : List Str) : (sset l).Pairwise sle := srt_pw _
theorem sset_of {l ys : List Str} (h : sortedS ys = true) (hd : ys.Nodup) (hm : ∀ x, x ∈ ys ↔ x ∈ l) : ys = sset l :=
  srt_of ((List.perm_ext_iff_of_nodup hd (nub_nodup l)).mpr fun x => (hm x).trans mem_nub.symm) h
theorem sset_eq {l m : List Str} (hd : m.Nodup) (hp : m.Pairwise sle) (hm : ∀ x, x ∈ m ↔ x ∈ l) : m = sset l :=
  srt_unique (((List.perm_ext_iff_of_nodup hd (nub_nodup l)).mpr fun x => (hm x).trans mem_nub.symm).trans (srt_perm _).symm) hp (srt_pw _)
theorem sset_congr {l m : List Str} (h : ∀ x, x ∈ l ↔ x ∈ m) : sset l = sset m := sset_eq (sset_nodup l) (sset_pw l) fun x => mem_sset.trans (h x)
theorem sset_len (l : List Str) : (sset l).length ≤ l.length := by
  unfold sset
  rw [srt_len]
  induction l with
  | nil => exact Nat.le_refl 0
  | cons a l ih =>
    unfold nub
    split
    · rw [List.length_cons]; omega
    · rw [List.length_cons, List.length_cons]; omega
/-! lists of texts as values -/
def strL (l : List Str) : List V := l.map V.str
theorem strL_get {l : List Str} {i : Nat} {x : V} (h : (strL l)[i]? = some x) : ∃ n, l[i]? = some n ∧ x = .str n := by
  unfold strL at h
  rw [List.getElem?_map] at h
  cases e : l[i]? with
  | none => rw [e] at h; cases h
  | some n => rw [e] at h; exact ⟨n, rfl, (Option.some.inj h).symm⟩
theorem strL_len (l : List Str) : (strL l).length = l.length := List.length_map _
theorem strL_app (l m : List Str) : strL (l ++ m) = strL l ++ strL m := List.map_append
theorem strL_flat (l : List Str) : (strL l).all flatV = true := by
  unfold strL
  rw [List.all_map]
  exact List.all_eq_true.mpr fun _ _ => rfl
theorem inV_str (x : Str) (l : List Str) : inV (.str x) (strL l) = decide (x ∈ l) := by
  unfold inV strL
  induction l with
  | nil => rfl
  | cons a l ih =>
    rw [List.map_cons, List.any_cons, ih]
    show ((a == x) || _) = _
    by_cases e : a = x
    · subst e; simp
    · have e1 : (a == x) = false := by rw [beq_eq_false_iff_ne]; exact e
      rw [e1, Bool.false_or]
      simp [Ne.symm e]
/-! steps -/
abbrev oLenS : List V → Hp → VK → Prop := fun xs H Q => ∃ z, xs = [.str z] ∧ z.length ≤ sizeLine ∧ Q (.int z.length) H
section
variable {K : PySem.W.Frag} {σ : L2.St} {H : Hp} {Q : VK} {z : Str} {a b : Addr} {xs ys : List Str}
theorem r_lenS (h : z.length ≤ sizeLine) (q : Q (.int z.length) H) : oLenS [.str z] H Q := ⟨z, rfl, h, q⟩
theorem r_inS {c : Nat} (q : Q (.bl (decide (c ∈ z.cps.toList))) H) : rInS (.str ⟨#[c]⟩) (.str z) H Q := ⟨c, z, rfl, rfl, q⟩
theorem r_notInS {c : Nat} (q : Q (.bl (!decide (c ∈ z.cps.toList))) H) : rNotInS (.str ⟨#[c]⟩) (.str z) H Q := ⟨c, z, rfl, rfl, q⟩
theorem r_iStr {te : TE} {R : It → Hp → Prop} (q : te σ H fun v H1 => ∃ x, v = .str x ∧ R (Its x) H1) : iStr te σ H R := q
theorem r_strx {P : Str → Prop} (q : P z) : ∃ x, V.str z = .str x ∧ P x := ⟨z, rfl, q⟩
theorem r_chain {r r' : R2} {ta tb tc : TE} (q : ta σ H fun x H1 => tb σ H1 fun y H2 => r x y H2 fun v H3 => ∃ c, v = .bl c ∧ if c = true then tc σ H3 fun z H4 => r' y z H4 Q else Q (.bl false) H3) : tChain r r' ta tb tc σ H Q := q
theorem r_lc2 {P : Bool → Prop} {x : Bool} (q : P x) : ∃ c, V.bl x = .bl c ∧ P c := ⟨x, rfl, q⟩
/-! comparing -/
theorem dpA_strs : ∀ xs : List Str, DpAll K H (strL xs) (xs.map PyData.str)
  | [] => .nil
  | x :: xs => .cons (.str x) (dpA_strs xs)
theorem lay_strs (hs : ∀ x ∈ xs, (PyData.str x).canLay0 = true) : PyData.canLayAll0 (xs.map PyData.str) = true ∧ PyData.depthAll (xs.map PyData.str) = 0 := by
  induction xs with
  | nil => exact ⟨by simp [PyData.canLayAll0], by simp [PyData.depthAll]⟩
  | cons x xs ih =>
    obtain ⟨h1, h2⟩ := ih fun y hy => hs y (List.mem_cons_of_mem _ hy)
    refine ⟨by simp [PyData.canLayAll0, h1, hs x (List.mem_cons_self ..)], ?_⟩
    simp only [List.map_cons, PyData.depthAll, PyData.depth]
    omega
theorem eqv_strs : ∀ xs ys : List Str, PyData.eqvAll (xs.map PyData.str) (ys.map PyData.str) = decide (xs = ys)
  | [], [] => by simp [PyData.eqvAll]
  | [], _ :: _ => by simp [PyData.eqvAll]
  | _ :: _, [] => by simp [PyData.eqvAll]
  | a :: r, b :: t => by
    simp only [List.map_cons, PyData.eqvAll, PyData.eqv, eqv_strs r t]
    by_cases h : a = b <;> by_cases h' : r = t <;> simp [h, h']
theorem strs_eqX (h : SqL K H a (strL xs)) (h2 : SqL K H b (strL ys)) (hx : ∀ x ∈ xs, (PyData.str x).canLay0 = true) (hy : ∀ y ∈ ys, (PyData.str y).canLay0 = true) (q : Q (.bl (decide (xs = ys))) H) : rEqX K (.ref a) (.ref b) H Q := by
  obtain ⟨x1, x2⟩ := lay_strs hx
  obtain ⟨y1, y2⟩ := lay_strs hy
  refine .inr (.inl ⟨_, _, .lst h (dpA_strs xs), .lst h2 (dpA_strs ys), ?_, ?_, ?_⟩)
  · exact Bool.and_eq_true_iff.mpr ⟨by simp only [PyData.canLay0]; exact x1, decide_eq_true (by simp only [PyData.depth]; omega)⟩
  · exact Bool.and_eq_true_iff.mpr ⟨by simp only [PyData.canLay0]; exact y1, decide_eq_true (by simp only [PyData.depth]; omega)⟩
  · show Q (.bl (PyData.eqvAll (xs.map PyData.str) (ys.map PyData.str))) H
    rw [eqv_strs]
    exact q
theorem strs_neX (h : SqL K H a (strL xs)) (h2 : SqL K H b (strL ys)) (hx : ∀ x ∈ xs, (PyData.str x).canLay0 = true) (hy : ∀ y ∈ ys, (PyData.str y).canLay0 = true) (q : Q (.bl (!decide (xs = ys))) H) : rNeX K (.ref a) (.ref b) H Q := by
  obtain ⟨x1, x2⟩ := lay_strs hx
  obtain ⟨y1, y2⟩ := lay_strs hy
  refine .inr (.inl ⟨_, _, .lst h (dpA_strs xs), .lst h2 (dpA_strs ys), ?_, ?_, ?_⟩)
  · exact Bool.and_eq_true_iff.mpr ⟨by simp only [PyData.canLay0]; exact x1, decide_eq_true (by simp only [PyData.depth]; omega)⟩
  · exact Bool.and_eq_true_iff.mpr ⟨by simp only [PyData.canLay0]; exact y1, decide_eq_true (by simp only [PyData.depth]; omega)⟩
  · show Q (.bl (!PyData.eqvAll (xs.map PyData.str) (ys.map PyData.str))) H
    rw [eqv_strs]
    exact q
/-- two lists of any items, one of them empty: xs == [], xs != [] -/
theorem nil_eqX {vs : List V} (h : SqL K H a vs) (h2 : SqL K H b []) (hd : ∃ ds, DpAll K H vs ds ∧ PyData.canLayAll0 ds = true ∧ PyData.depthAll ds ≤ 60) (q : Q (.bl vs.isEmpty) H) : rEqX K (.ref a) (.ref b) H Q := by
  obtain ⟨ds, d1, d2, d3⟩ := hd
  refine .inr (.inl ⟨.list ds, .list [], .lst h d1, .lst h2 .nil, ?_, ?_, ?_⟩)
  · exact Bool.and_eq_true_iff.mpr ⟨by simp only [PyData.canLay0]; exact d2, decide_eq_true (by simp only [PyData.depth]; omega)⟩
  · decide +kernel
  · cases d1 with
    | nil => simpa [PyData.eqv, PyData.eqvAll] using q
    | cons _ _ => simpa [PyData.eqv, PyData.eqvAll] using q
theorem nil_neX {vs : List V} (h : SqL K H a vs) (h2 : SqL K H b []) (hd : ∃ ds, DpAll K H vs ds ∧ PyData.canLayAll0 ds = true ∧ PyData.depthAll ds ≤ 60) (q : Q (.bl (!vs.isEmpty)) H) : rNeX K (.ref a) (.ref b) H Q := by
  obtain ⟨ds, d1, d2, d3⟩ := hd
  refine .inr (.inl ⟨.list ds, .list [], .lst h d1, .lst h2 .nil, ?_, ?_, ?_⟩)
  · exact Bool.and_eq_true_iff.mpr ⟨by simp only [PyData.canLay0]; exact d2, decide_eq_true (by simp only [PyData.depth]; omega)⟩
  · decide +kernel
  · cases d1 with
    | nil => simpa [PyData.eqv, PyData.eqvAll] using q
    | cons _ _ => simpa [PyData.eqv, PyData.eqvAll] using q
theorem strs_dp (hx : ∀ x ∈ xs, (PyData.str x).canLay0 = true) : ∃ ds, DpAll K H (strL xs) ds ∧ PyData.canLayAll0 ds = true ∧ PyData.depthAll ds ≤ 60 :=
  ⟨_, dpA_strs xs, (lay_strs hx).1, by rw [(lay_strs hx).2]; decide⟩
end
end CP

set_option Elab.async false
set_option linter.all false
set_option maxRecDepth 100000
set_option maxHeartbeats 4000000
set_option autoImplicit false
/-! == and != of instances of a class with its own __eq__ (and no own __ne__) -/
namespace CP
open PySem L2 PySem.W PyProof.Rows
section
variable {prog : Program} {w : World} {A : Around} {E : Value → Shared → Prop} {s : Shared} {K : Frag} {x C L f : Addr} {h₀ : Heap} {m : Str → Option Value} {ox : Obj} {od : Option Obj} {b tb : Value}
theorem ne_bound (self : Value) : bindSpecial (.builtin "object.__ne__") self = pure (.builtin "object.__ne__", [self]) :=
  (Slot.of (T := "object") (name := "__ne__") (owner := "object") (n := "__ne__") (by rw [typeLookup_type, builtinLookup_eq_fast]; kernel_rfl) (by decide +kernel) (by decide +kernel) (by decide +kernel)
    (.inl (by decide +kernel)) (by rw [isSubtype_type]; kernel_rfl)).bind self
theorem bound_ne {M : Model} {args : List Value} {Q : Option Value → Shared → Prop} (X : K.In s.heap) (I : InstAt s.heap x ox C od) (hs : findIn K (.ref C) "__ne__" = some (some (.builtin "object.__ne__")))
    (h : wpAny M A (call (.builtin "object.__ne__") (.ref x :: args)) (fun v => Q (some v)) E s) : wpAny M A (callSpecialIfBound? (.ref x) "__ne__" args) Q E s := by
  simp only [callSpecialIfBound?, bindSpecialIfBound?]
  refine wpAny_holding (wpAny_bind (wpAny_bind (wpAny_bind (I.type.here ((looks_findIn X hs).here ?_)))))
  refine wpAny_bind (wpAny_askSetting (wpAny_ite ?_))
  have fin : wpAny M A (call (.builtin "object.__ne__") ([.ref x] ++ args) >>= fun v => pure (some v)) Q E s := wpAny_bind (wpAny_mono h (fun v s' z => wpAny_pure z) fun _ _ z => z)
  rw [ne_bound]
  split
  · exact wpAny_bind (wpAny_pure (wpAny_pure (by exact fin)))
  · exact wpAny_tryCatch (wpAny_bind (wpAny_pure (wpAny_pure (by exact fin))))
/-- what the own __eq__ answers, turned about -/
theorem object_ne {Q : Fin → Shared → Prop} (X : K.In s.heap) (I : InstAt s.heap x ox C od) (hu : A.units < cLine) (hs : findIn K (.ref C) "__eq__" = some (some (.ref f))) (hf : isFn K (.ref f) = true)
    (h : wpAny (model prog w) A (call (.ref f) [.ref x, b]) (fun v s' => ∃ c, v = .bool c ∧ Q (.done (.ret (.bool (!c)))) s') E s) : wpAny (model prog w) A (Builtin.«object.__ne__» ⟨[.ref x, b], []⟩) Q E s := by
  unfold Builtin.«object.__ne__»
  refine wpAny_bind (m := slotArgs "__ne__" 1 ⟨[.ref x, b], []⟩) (wpAny_pure ?_)
  refine wpAny_bind (wpAny_cRoomFor hu ?_)
  refine wpAny_bind (m := callSpecialIfBound? (.ref x) (Str.ofString "__eq__") [b]) (ifBound_K X I hs hf (wpAny_mono h (fun v s' z => ?_) fun _ _ z => z))
  obtain ⟨c, rfl, q⟩ := z
  exact wpAny_bind (m := truthy (.bool c)) (wpAny_truthy_bool (wpAny_pure q))
theorem cmp_ne {Q : Value → Shared → Prop} (hu : A.units + 1 < cLine) (F : Fr h₀ L s.heap m) (X₀ : K.In h₀) (I : InstAt s.heap x ox C od) (hb : Looks (model prog w) s.heap (typeOf b) tb) (hn : notFirst K C tb = true) (ho : subIn K (.ref C) (.type "object") = some true)
    (hne : findIn K (.ref C) "__ne__" = some (some (.builtin "object.__ne__"))) (hs : findIn K (.ref C) "__eq__" = some (some (.ref f))) (hf : isFn K (.ref f) = true)
    (h : wpAny (model prog w) A.in1 (call (.ref f) [.ref x, b]) (fun v s' => ∃ c, v = .bool c ∧ Q (.bool (!c)) s') E s) : wpAny (model prog w) A (richCompare .NotEq (.ref x) b) Q E s := by
  have X := X₀.keeps F.keep
  have one : wpAny (model prog w) A (tryCompare (.ref x) "__ne__" b) (fun r s' => ∃ v, r = some v ∧ Q v s') E s := by
    unfold tryCompare
    refine wpAny_bind (bound_ne X I hne (wpAny_call (codeAny_call_builtin (by decide +kernel) PySem.F.cmpEntry_ne
      (@check_slot (model prog w) _ _ _ "object.__ne__" "object" "__ne__" (.ref x) [b] [] _ PySem.F.cmpKind_ne PySem.F.cmpSplit_ne (I.type.andThen (looks_subIn X ho)) (PySem.F.cmpArgs_ne _ _) ?_))))
    refine object_ne (A := A.in1) X I hu hs hf (wpAny_mono h (fun v s' z => ?_) fun _ _ z => z)
    obtain ⟨c, rfl, q⟩ := z
    exact ⟨c, rfl, wpAny_pure ⟨_, rfl, q⟩⟩
  unfold richCompare
  simp only [oneThing_ref]
  refine wpAny_holding (wpAny_bind (wpAny_cRoomFor (Nat.lt_of_succ_lt hu) ?_))
  refine wpAny_bind (I.type.here (wpAny_bind (hb.here ?_)))
  have fin : wpAny (model prog w) A (tryCompare (.ref x) "__ne__" b) (fun r s' => wpAny (model prog w) A (match r with | some v => pure v | none => (do
      if let some v ← tryCompare b "__ne__" (.ref x) then return v
      pure (.bool (!(← isSame (.ref x) b))))) Q E s') E s := wpAny_mono one (fun r s' z => by
    obtain ⟨v, rfl, q⟩ := z
    exact wpAny_pure q) fun _ _ z => z
  split
  · rename_i q
    have e : subIn K tb (.ref C) = some false := by
      rcases Bool.or_eq_true_iff.mp hn with e | e
      · rw [beq_iff_eq.mp e] at q; simp at q
      · exact beq_iff_eq.mp e
    refine wpAny_bind ((looks_subIn X e).here ?_)
    simp only [Bool.false_eq_true, if_false]
    refine wpAny_bind (wpAny_mono one (fun r s' z => ?_) fun _ _ z => z)
    obtain ⟨v, rfl, hq⟩ := z
    exact wpAny_pure hq
  · refine wpAny_bind (wpAny_pure ?_)
    simp only [Bool.false_eq_true, if_false]
    refine wpAny_bind (wpAny_mono one (fun r s' z => ?_) fun _ _ z => z)
    obtain ⟨v, rfl, hq⟩ := z
    exact wpAny_pure hq
end
/-- what isinstance asks of a class -/
structure ClsI (K : Frag) (C : Addr) : Prop where
  cl : Cls K C
  at_ : findIn K (.ref C) "__class__" = some (some (.builtin "object.__class__"))
  sp : specialIn K (.builtin "object.__class__") "__get__" = some (some (.builtin "getset_descriptor.__get__"))
  tk : takesIn K (.builtin "object.__class__") = some true
  mro : mroIn K C (.type "object") = some true
/-- what has to be known of such a class -/
structure OwnEq (K : Frag) (C f : Addr) : Prop where
  eq : findIn K (.ref C) "__eq__" = some (some (.ref f))
  fn : isFn K (.ref f) = true
  ne : findIn K (.ref C) "__ne__" = some (some (.builtin "object.__ne__"))
  ob : subIn K (.ref C) (.type "object") = some true
section
variable {X : Cx} {CX : CXT} {k : Nat} {C f : Addr} {fd : FuncData} {ps : List Str} {sp : Sp} {E : XK}
def rEqO (C : Addr) (sp : Sp) (E : XK) : R2 := fun x y H Q => ∃ a b dx dy fs gs, x = .ref a ∧ y = .ref b ∧ H a = some (.ins C dx fs) ∧ H b = some (.ins C dy gs) ∧ sp [x, y] H (fun v H' => ∃ c, v = .bl c ∧ Q (.bl c) H') E
def rNeO (C : Addr) (sp : Sp) (E : XK) : R2 := fun x y H Q => ∃ a b dx dy fs gs, x = .ref a ∧ y = .ref b ∧ H a = some (.ins C dx fs) ∧ H b = some (.ins C dy gs) ∧ sp [x, y] H (fun v H' => ∃ c, v = .bl c ∧ Q (.bl (!c)) H') E
theorem op_neO (O : OwnEq X.K C f) (F : FnOk X.prog X.w X.K X.mg X.base CX k f fd ps sp) (hr : Room (k + 1) X.A) (hb : Binds X.K fd ps []) (hx : Passes CX X E) : OpR X (compareOp .NotEq) (rNeO C sp E) := by
  intro pins s σ H x y v u Q I rx ry h
  obtain ⟨a, b, dx, dy, fs, gs, rfl, rfl, ha, hb', pr⟩ := h
  cases rx
  cases ry
  obtain ⟨mA, J, _⟩ := ins_get I.hok ha
  obtain ⟨mB, J', _⟩ := ins_get I.hok hb'
  obtain ⟨o1, J, _⟩ := J.look
  obtain ⟨o2, J', _⟩ := J'.look
  obtain ⟨m, hF⟩ := I.fr
  have room : Room k X.A.in1 := hr.in1
  refine cmp_ne (tb := .ref C) (by have := hr.units; omega) hF I.ok.mod.kin J J'.type (by simp [notFirst]) O.ob O.ne O.eq O.fn ?_
  have e0 : Env0 X.prog X.w X.K X.mg X.base X.A.in1 X.stack s H := I.env0.in1
  have hl := F.len _ _ _ _ pr
  have r2 : Vals [V.ref a, V.ref b] [Value.ref a, Value.ref b] := .cons rfl (.cons rfl .nil)
  refine wpAny_call (codeAny_mono (F.run X.A.in1 X.stack s H ⟨[.ref a, .ref b], []⟩ [.ref a, .ref b] [.ref a, .ref b] _ E room e0 (by
    have z := hb s [.ref a, .ref b] I.kIn (by simpa using hl)
    simpa using z) r2 pr) fun r s' z => ?_)
  match r, z with
  | .error e, z => exact hx pins σ H s e s' I z
  | .ok (.ret t), z =>
    obtain ⟨zv, H', I', rz, c, ec, q⟩ := I.after z
    subst ec
    cases rz
    exact ⟨c, rfl, .bl (!c), H', I', rfl, q⟩
theorem op_eqO (O : OwnEq X.K C f) (F : FnOk X.prog X.w X.K X.mg X.base CX k f fd ps sp) (hr : Room (k + 1) X.A) (hb : Binds X.K fd ps []) (hx : Passes CX X E) : OpR X (compareOp .Eq) (rEqO C sp E) := by
  intro pins s σ H x y v u Q I rx ry h
  obtain ⟨a, b, dx, dy, fs, gs, rfl, rfl, ha, hb', pr⟩ := h
  cases rx
  cases ry
  obtain ⟨mA, J, _⟩ := ins_get I.hok ha
  obtain ⟨mB, J', _⟩ := ins_get I.hok hb'
  obtain ⟨o1, J, _⟩ := J.look
  obtain ⟨o2, J', _⟩ := J'.look
  obtain ⟨m, hF⟩ := I.fr
  refine cmp_K (op := .Eq) (tb := .ref C) hr.units0 hF I.ok.mod.kin J J'.type (by simp [notFirst]) O.eq O.fn ?_
  have hl := F.len _ _ _ _ pr
  have r2 : Vals [V.ref a, V.ref b] [Value.ref a, Value.ref b] := .cons rfl (.cons rfl .nil)
  refine wpAny_call (codeAny_mono (F.run X.A X.stack s H ⟨[.ref a, .ref b], []⟩ [.ref a, .ref b] [.ref a, .ref b] _ E (hr.mono (by omega)) I.env0 (by
    have z := hb s [.ref a, .ref b] I.kIn (by simpa using hl)
    simpa using z) r2 pr) fun r s' z => ?_)
  match r, z with
  | .error e, z => exact hx pins σ H s e s' I z
  | .ok (.ret t), z =>
    obtain ⟨zv, H', I', rz, c, ec, q⟩ := I.after z
    subst ec
    cases rz
    exact ⟨.bl c, H', I', rfl, q⟩
end
end CP

set_option Elab.async false
set_option linter.all false
set_option maxRecDepth 100000
set_option maxHeartbeats 4000000
set_option autoImplicit false
/-! plain tables as values: letters, products, sides, rows -/
namespace CP
open L2 PySem PyProof.Rows
def smallT : Str := "abcdefghijklmnopqrstuvwxyz"
def letB (z : Str) : Bool := decide (1 ≤ z.length ∧ z.length ≤ 10) && z.cps.toList.all fun c => decide (c ∈ smallT.cps.toList)
theorem small_low : ∀ c ∈ smallT.cps.toList, c < 0x110000 := by decide +kernel
theorem let_lay {z : Str} (h : letB z = true) : (PyData.str z).canLay0 = true := by
  unfold letB at h
  rw [Bool.and_eq_true] at h
  simp only [PyData.canLay0]
  show z.cps.all (· < 0x110000) = true
  rw [← Array.all_toList, List.all_eq_true]
  intro c hc
  exact decide_eq_true (small_low c (of_decide_eq_true (List.all_eq_true.mp h.2 c hc)))
theorem let_len {z : Str} (h : letB z = true) : 1 ≤ z.length ∧ z.length ≤ 10 := by
  unfold letB at h
  rw [Bool.and_eq_true] at h
  exact of_decide_eq_true h.1
abbrev Sd := Str × List Str × List Str
/-- a product of letters -/
def Lets (l : List Str) : Prop := (∀ x ∈ l, letB x = true) ∧ l.length ≤ 30
theorem Lets.lay {l : List Str} (h : Lets l) : ∀ x ∈ l, (PyData.str x).canLay0 = true := fun x hx => let_lay (h.1 x hx)
theorem Lets.perm {l m : List Str} (h : Lets l) (p : m.Perm l) : Lets m := ⟨fun x hx => h.1 x (p.mem_iff.mp hx), by rw [p.length_eq]; exact h.2⟩
theorem lets_nil : Lets [] := ⟨by simp, by simp⟩
/-- sides that make a table -/
structure Rows (rows : List Sd) : Prop where
  ne : rows ≠ []
  few : rows.length ≤ 20
  name : ∀ r ∈ rows, letB r.1 = true
  size : ∀ r ∈ rows, Lets r.2.1
  step : ∀ r ∈ rows, Lets r.2.2
  dis : (rows.map (·.1)).Nodup
  out : ∀ r ∈ rows, ∀ x ∈ r.2.1 ++ r.2.2, x ∉ rows.map (·.1)
def SideAt (H : Hp) (v : V) (r : Sd) : Prop := ∃ t a b, v = .ref t ∧ H t = some (.tup [.str r.1, .ref a, .ref b]) ∧ H a = some (.lst (strL r.2.1)) ∧ H b = some (.lst (strL r.2.2))
theorem SideAt.mono {H H' : Hp} {v : V} {r : Sd} (h : SideAt H v r) (s : Same H H') : SideAt H' v r := by
  obtain ⟨t, a, b, e, h1, h2, h3⟩ := h
  exact ⟨t, a, b, e, s _ _ h1, s _ _ h2, s _ _ h3⟩
def RowsAt (H : Hp) (p : Addr) (rows : List Sd) : Prop := ∃ vs, H p = some (.lst vs) ∧ Paired (SideAt H) vs rows
theorem RowsAt.mono {H H' : Hp} {p : Addr} {rows : List Sd} (h : RowsAt H p rows) (s : Same H H') : RowsAt H' p rows := by
  obtain ⟨vs, e, pr⟩ := h
  exact ⟨vs, s _ _ e, pd_mono pr fun _ _ z => SideAt.mono z s⟩
theorem sides_mono {H H' : Hp} {vs : List V} {rows : List Sd} (h : Paired (SideAt H) vs rows) (s : Same H H') : Paired (SideAt H') vs rows := pd_mono h fun _ _ z => SideAt.mono z s
/-! as data -/
def sideD (r : Sd) : PyData := .tuple [.str r.1, .list (r.2.1.map .str), .list (r.2.2.map .str)]
theorem side_dp {K : PySem.W.Frag} {H : Hp} {v : V} {r : Sd} (h : SideAt H v r) : Dp K H v (sideD r) := by
  obtain ⟨t, a, b, rfl, h1, h2, h3⟩ := h
  exact .tup (.of h1) (.cons (.str _) (.cons (.lst (.of h2) (dpA_strs _)) (.cons (.lst (.of h3) (dpA_strs _)) .nil)))
theorem rows_dp {K : PySem.W.Frag} {H : Hp} {vs : List V} {rows : List Sd} (h : Paired (SideAt H) vs rows) : DpAll K H vs (rows.map sideD) := by
  induction h with
  | nil => exact .nil
  | cons h _ ih => exact .cons (side_dp h) ih
theorem side_lay {r : Sd} (h0 : (PyData.str r.1).canLay0 = true) (h1 : ∀ x ∈ r.2.1, (PyData.str x).canLay0 = true) (h2 : ∀ x ∈ r.2.2, (PyData.str x).canLay0 = true) : (sideD r).canLay0 = true ∧ (sideD r).depth = 2 := by
  obtain ⟨a1, a2⟩ := lay_strs h1
  obtain ⟨b1, b2⟩ := lay_strs h2
  have h0' := h0
  simp only [PyData.canLay0] at h0'
  refine ⟨by simp [sideD, PyData.canLay0, PyData.canLayAll0, a1, b1, h0'], ?_⟩
  simp only [sideD, PyData.depth, PyData.depthAll, a2, b2]
  rfl
theorem rows_lay {rows : List Sd} (h : ∀ r ∈ rows, (sideD r).canLay0 = true ∧ (sideD r).depth = 2) : PyData.canLayAll0 (rows.map sideD) = true ∧ PyData.depthAll (rows.map sideD) ≤ 2 := by
  induction rows with
  | nil => exact ⟨by simp [PyData.canLayAll0], by simp [PyData.depthAll]⟩
  | cons r rows ih =>
    obtain ⟨i1, i2⟩ := ih fun x hx => h x (List.mem_cons_of_mem _ hx)
    obtain ⟨a1, a2⟩ := h r (List.mem_cons_self ..)
    refine ⟨by simp [PyData.canLayAll0, a1, i1], ?_⟩
    simp only [List.map_cons, PyData.depthAll]
    omega
theorem Rows.lay {rows : List Sd} (h : Rows rows) : ∀ r ∈ rows, (sideD r).canLay0 = true ∧ (sideD r).depth = 2 := fun r hr => side_lay (let_lay (h.name r hr)) (h.size r hr).lay (h.step r hr).lay
theorem Rows.dp {K : PySem.W.Frag} {H : Hp} {vs : List V} {rows : List Sd} (h : Rows rows) (p : Paired (SideAt H) vs rows) : ∃ ds, DpAll K H vs ds ∧ PyData.canLayAll0 ds = true ∧ PyData.depthAll ds ≤ 60 :=
  ⟨_, rows_dp p, (rows_lay h.lay).1, Nat.le_trans (rows_lay h.lay).2 (by decide)⟩
section
variable {K : PySem.W.Frag} {H : Hp} {Q : VK} {a b : Addr} {xs ys : List Str} {vs : List V}
theorem tnil_eqX (h : SqT K H a vs) (h2 : SqT K H b []) (hd : ∃ ds, DpAll K H vs ds ∧ PyData.canLayAll0 ds = true ∧ PyData.depthAll ds ≤ 60) (q : Q (.bl vs.isEmpty) H) : rEqX K (.ref a) (.ref b) H Q := by
  obtain ⟨ds, d1, d2, d3⟩ := hd
  refine .inr (.inl ⟨.tuple ds, .tuple [], .tup h d1, .tup h2 .nil, ?_, ?_, ?_⟩)
  · exact Bool.and_eq_true_iff.mpr ⟨by simp only [PyData.canLay0]; exact d2, decide_eq_true (by simp only [PyData.depth]; omega)⟩
  · decide +kernel
  · cases d1 with
    | nil => simpa [PyData.eqv, PyData.eqvAll] using q
    | cons _ _ => simpa [PyData.eqv, PyData.eqvAll] using q
theorem nil_eqX0 (h : SqL K H a []) (h2 : SqL K H b []) (q : Q (.bl true) H) : rEqX K (.ref a) (.ref b) H Q := nil_eqX h h2 ⟨[], .nil, by decide +kernel, by decide +kernel⟩ q
theorem nil_neX0 (h : SqL K H a []) (h2 : SqL K H b []) (q : Q (.bl false) H) : rNeX K (.ref a) (.ref b) H Q := nil_neX h h2 ⟨[], .nil, by decide +kernel, by decide +kernel⟩ q
theorem nil_eqX1 {v : V} (h : SqL K H a (v :: vs)) (h2 : SqL K H b []) (hd : ∃ ds, DpAll K H (v :: vs) ds ∧ PyData.canLayAll0 ds = true ∧ PyData.depthAll ds ≤ 60) (q : Q (.bl false) H) : rEqX K (.ref a) (.ref b) H Q := nil_eqX h h2 hd q
theorem nil_neX1 {v : V} (h : SqL K H a (v :: vs)) (h2 : SqL K H b []) (hd : ∃ ds, DpAll K H (v :: vs) ds ∧ PyData.canLayAll0 ds = true ∧ PyData.depthAll ds ≤ 60) (q : Q (.bl true) H) : rNeX K (.ref a) (.ref b) H Q := nil_neX h h2 hd q
theorem r_inStr {x : Str} (h : SqL K H a (strL xs)) (q : Q (.bl (decide (x ∈ xs))) H) : rIn K false (.str x) (.ref a) H Q := r_in h rfl (strL_flat _) (by rw [inV_str]; exact q)
theorem r_niStr {x : Str} (h : SqL K H a (strL xs)) (q : Q (.bl (!decide (x ∈ xs))) H) : rIn K true (.str x) (.ref a) H Q := r_in h rfl (strL_flat _) (by rw [inV_str]; exact q)
theorem r_slA {lo hi : Option Int} (h : SqT K H a vs) (hw : ¬ (HT.sIx vs.length 0 lo = 0 ∧ HT.sIx vs.length vs.length hi = vs.length)) (q : ∀ l H', H l = none → Same H H' → H' l = some (.tup (cutV vs lo hi)) → Q (.ref l) H') : rSlA K (.ref a) lo hi H Q :=
  ⟨a, vs, rfl, h, fun z => absurd z hw, fun _ p hp => q p _ hp (same_new hp) upd_same⟩
theorem eqX_d {d e : PyData} {x y : V} (h1 : Dp K H x d) (h2 : Dp K H y e) (s1 : d.canLay0 = true) (s2 : e.canLay0 = true) (d1 : d.depth ≤ 60) (d2 : e.depth ≤ 60) (q : Q (.bl (PyData.eqv d e)) H) : rEqX K x y H Q :=
  .inr (.inl ⟨d, e, h1, h2, Bool.and_eq_true_iff.mpr ⟨s1, decide_eq_true (by omega)⟩, Bool.and_eq_true_iff.mpr ⟨s2, decide_eq_true (by omega)⟩, q⟩)
theorem neX_d {d e : PyData} {x y : V} (h1 : Dp K H x d) (h2 : Dp K H y e) (s1 : d.canLay0 = true) (s2 : e.canLay0 = true) (d1 : d.depth ≤ 60) (d2 : e.depth ≤ 60) (q : Q (.bl (!PyData.eqv d e)) H) : rNeX K x y H Q :=
  .inr (.inl ⟨d, e, h1, h2, Bool.and_eq_true_iff.mpr ⟨s1, decide_eq_true (by omega)⟩, Bool.and_eq_true_iff.mpr ⟨s2, decide_eq_true (by omega)⟩, q⟩)
end
/-- what an item of the rows is -/
theorem side_at {H H' : Hp} {vs : List V} {rows : List Sd} (pr : Paired (SideAt H) vs rows) (s : Same H H') {i : Nat} {x : V} (hx : vs[i]? = some x) :
    ∃ r t a b, rows[i]? = some r ∧ r ∈ rows ∧ x = .ref t ∧ H' t = some (.tup [.str r.1, .ref a, .ref b]) ∧ H' a = some (.lst (strL r.2.1)) ∧ H' b = some (.lst (strL r.2.2)) := by
  obtain ⟨r, hr, t, a, b, e, h1, h2, h3⟩ := pd_get pr hx
  exact ⟨r, t, a, b, hr, List.mem_of_getElem? hr, e, s _ _ h1, s _ _ h2, s _ _ h3⟩
/-! tables as objects -/
def srow (r : Sd) : Sd := (r.1, srt r.2.1, srt r.2.2)
def TabAt (C : Addr) (H : Hp) (o : Addr) (rows : List Sd) : Prop := ∃ dx p, H o = some (.ins C dx [("row", .ref p)]) ∧ RowsAt H p rows
theorem TabAt.mono {C : Addr} {H H' : Hp} {o : Addr} {rows : List Sd} (h : TabAt C H o rows) (s : Same H H') : TabAt C H' o rows := by
  obtain ⟨dx, p, h1, h2⟩ := h
  exact ⟨dx, p, s _ _ h1, h2.mono s⟩
theorem Rows.srow {rows : List Sd} (h : Rows rows) : Rows (rows.map srow) := by
  have e : (rows.map CP.srow).map (·.1) = rows.map (·.1) := by rw [List.map_map]; rfl
  refine ⟨fun z => h.ne (List.map_eq_nil_iff.mp z), by rw [List.length_map]; exact h.few, fun r hr => ?_, fun r hr => ?_, fun r hr => ?_, by rw [e]; exact h.dis, fun r hr x hx => ?_⟩
  · obtain ⟨u, hu, rfl⟩ := List.mem_map.mp hr; exact h.name u hu
  · obtain ⟨u, hu, rfl⟩ := List.mem_map.mp hr; exact (h.size u hu).perm (srt_perm _)
  · obtain ⟨u, hu, rfl⟩ := List.mem_map.mp hr; exact (h.step u hu).perm (srt_perm _)
  · obtain ⟨u, hu, rfl⟩ := List.mem_map.mp hr
    rw [e]
    refine h.out u hu x ?_
    rcases List.mem_append.mp hx with z | z
    · exact List.mem_append_left _ (mem_srt.mp z)
    · exact List.mem_append_right _ (mem_srt.mp z)
section
variable {K : PySem.W.Frag} {w : World} {σ : L2.St} {H : Hp} {Q : VK} {a o C dx : Addr} {l : List Str} {fs : List (Str × V)} {f : Str} {v : V} {te ta tv : TE} {tas : TA} {D : Ends}
theorem r_sortS (h : SqL K H a (strL l)) (hn : l.length < 64) (q : ∀ p H', H p = none → Same H H' → H' p = some (.lst (strL (srt l))) → Q (.ref p) H') : rSortedS K [.ref a] H Q :=
  ⟨a, l, rfl, h, hn, fun ys p hp hs h0 => by
    rw [srt_of hp hs]
    exact q p _ h0 (same_new h0) upd_same⟩
theorem r_tfld (q : ta σ H fun x H1 => ∃ a C dx fs v, x = .ref a ∧ H1 a = some (.ins C dx fs) ∧ Cls K C ∧ NoAttr K C f ∧ fs.lookup f = some v ∧ Q v H1) : tFld K ta f σ H Q := q
theorem r_fget {P : V → Prop} (h : H o = some (.ins C dx fs)) (c : Cls K C) (n : NoAttr K C f) (l : fs.lookup f = some v) (q : P v) : ∃ a C dx fs v, V.ref o = .ref a ∧ H a = some (.ins C dx fs) ∧ Cls K C ∧ NoAttr K C f ∧ fs.lookup f = some v ∧ P v := ⟨o, C, dx, fs, v, rfl, h, c, n, l, q⟩
theorem r_sfld (q : tv σ H fun y H1 => ta σ H1 fun x H2 => ∃ a C dx fs, x = .ref a ∧ H2 a = some (.ins C dx fs) ∧ Cls K C ∧ NoAttr K C f ∧ fs.length < 1000 ∧ D.nx σ (upd H2 a (.ins C dx (putF f y fs)))) : sFld K ta tv f D σ H := q
theorem r_fput {N : Hp → Prop} (h : H o = some (.ins C dx fs)) (c : Cls K C) (n : NoAttr K C f) (l : fs.length < 1000) (q : ∀ H', SB o H H' → H' o = some (.ins C dx (putF f v fs)) → N H') : ∃ a C dx fs, V.ref o = .ref a ∧ H a = some (.ins C dx fs) ∧ Cls K C ∧ NoAttr K C f ∧ fs.length < 1000 ∧ N (upd H a (.ins C dx (putF f v fs))) :=
  ⟨o, C, dx, fs, rfl, h, c, n, l, q _ sb_upd upd_same⟩
theorem r_make {sp : Sp} {dvs : List V} {E : XK} (q : tas σ H fun vs H1 => ∀ x dx H', H1 x = none → Same H1 H' → H' x = some (.ins C dx []) → sp (.ref x :: (vs ++ dvs)) H' (fun v H2 => v = .non ∧ Q (.ref x) H2) E) (mono : ∀ {Q Q' : List V → Hp → Prop}, (∀ vs H, Q vs H → Q' vs H) → tas σ H Q → tas σ H Q') : tMake C sp dvs E tas σ H Q := by
  refine mono (fun vs H1 h => ?_) q
  intro x dx hx hdx ne
  refine h x dx _ hx (fun b o hb => ?_) upd_same
  rw [upd_ne (ne_of_none hb hx), upd_ne (ne_of_none hb hdx)]
  exact hb
theorem r_mk1 {P : Addr → Hp → Prop} (q : ∀ x dx H', H x = none → Same H H' → H' x = some (.ins C dx []) → P x H') : ∀ x dx, H x = none → H dx = none → dx ≠ x → P x (upd (upd H dx (.own x)) x (.ins C dx [])) := fun x dx hx hdx ne =>
  q x dx _ hx (fun b o hb => by
    rw [upd_ne (ne_of_none hb hx), upd_ne (ne_of_none hb hdx)]
    exact hb) upd_same
theorem r_tmake {sp : Sp} {dvs : List V} {E : XK} (q : tas σ H fun vs H1 => ∀ x dx, H1 x = none → H1 dx = none → dx ≠ x → sp (.ref x :: (vs ++ dvs)) (upd (upd H1 dx (.own x)) x (.ins C dx [])) (fun v H2 => v = .non ∧ Q (.ref x) H2) E) : tMake C sp dvs E tas σ H Q := q
theorem r_tmeth {sp : Sp} {dvs : List V} {E : XK} {m : Str} (q : ta σ H fun x H1 => ∃ a dx fs, x = .ref a ∧ H1 a = some (.ins C dx fs) ∧ fs.lookup m = none ∧ tas σ H1 fun vs H2 => sp (x :: (vs ++ dvs)) H2 Q E) : tMeth C m sp dvs E ta tas σ H Q := q
end
section
variable {K : PySem.W.Frag} {H : Hp} {Q : VK} {o C dx : Addr} {fs : List (Str × V)}
theorem r_isiC (h : H o = some (.ins C dx fs)) (c : ClsI K C) (q : Q (.bl true) H) : rIsi K [.ref o, .ref C] H Q := ⟨.ref o, .ref C, .ref C, .ref C, true, rfl, .own C, .base (.ins h c.cl c.at_ c.sp c.tk c.mro), by simp [PySem.W.kitOne], q⟩
end
theorem eqv_side (r s : Sd) : PyData.eqv (sideD r) (sideD s) = decide (r = s) := by
  obtain ⟨a, b, c⟩ := r
  obtain ⟨d, e, f⟩ := s
  simp only [sideD, PyData.eqv, PyData.eqvAll, eqv_strs]
  by_cases h1 : a = d <;> by_cases h2 : b = e <;> by_cases h3 : c = f <;> simp [h1, h2, h3]
theorem eqv_rows : ∀ rs ss : List Sd, PyData.eqvAll (rs.map sideD) (ss.map sideD) = decide (rs = ss)
  | [], [] => by simp [PyData.eqvAll]
  | [], _ :: _ => by simp [PyData.eqvAll]
  | _ :: _, [] => by simp [PyData.eqvAll]
  | a :: r, b :: t => by
    simp only [List.map_cons, PyData.eqvAll, eqv_side, eqv_rows r t]
    by_cases h : a = b <;> by_cases h' : r = t <;> simp [h, h']
/-- all letters of the products, each one once, in order -/
def sizesM (rows : List Sd) : List Str := sset (rows.flatMap fun r => r.2.1 ++ r.2.2)
section
variable {K : PySem.W.Frag} {a : Addr} {g : TG} {tt : TT} {te : TE} {vs : List Nat} {σ : L2.St} {H1 : Hp} {D : Addr} {Qd : Hp → Prop}
/-- a comprehension over texts that leaves some out -/
theorem lc_strF {l : List Str} (p : Str → Bool) (hD : H1 D = none) (ha : SqL K H1 a (strL l)) (hz : l.length < sizeLine)
    (hs : ∀ (i : Nat) (x : Str) (H : Hp), l[i]? = some x → Same H1 H → Turn (β := V) g tt te vs σ (fun _ x b => x = b) D H (.str x) (if p x = true then some (.str x) else none)) (hd : ∀ H, Same H1 H → H D = some (.lst (strL (l.filter p))) → Qd H) :
    ∃ W : Nat → Nat → Hp → Prop, (∃ m, W 0 m (upd H1 D (.lst []))) ∧ ∀ i m H, W i m H →
      ((Itl K a).stop i H ∧ Qd H) ∨ ((Itl K a).go i H ∧ ∃ Nx : Hp → Prop, (∀ H', Nx H' → ∃ m', m' < m ∧ W (i + 1) m' H') ∧ ∀ x H', (Itl K a).yld i H x H' → g x (wipe σ vs) H' fun σ2 H2 => wipe σ2 vs = wipe σ vs ∧ tt σ2 H2 fun b H3 =>
        if b = true then te σ2 H3 fun y H4 => ∃ acc, H4 D = some (.lst acc) ∧ acc.length < sizeLine ∧ Nx (upd H4 D (.lst (acc ++ [y]))) else Nx H3) := by
  refine lc_tell (β := V) (fun _ x b => x = b) (l.map fun x => if p x = true then some (.str x) else none) hD ha (by rw [strL_len, List.length_map]) (by rw [List.length_map]; exact hz) (fun _ _ _ _ _ z => z) (fun i x o H hx ho s1 _ => ?_) fun H acc s1 hacc pp => ?_
  · obtain ⟨z, hz, rfl⟩ := strL_get hx
    have e : o = if p z = true then some (.str z) else none := by
      rw [List.getElem?_map, hz] at ho
      exact (Option.some.inj ho).symm
    subst e
    exact hs i z H hz s1
  · have e : acc = strL (l.filter p) := by
      rw [pd_eq pp, List.filterMap_map]
      clear pp hs hz ha hd
      induction l with
      | nil => rfl
      | cons x l ih =>
        by_cases c : p x = true
        · rw [List.filterMap_cons_some (b := V.str x) (by show (if p x = true then some (V.str x) else none) = _; rw [if_pos c]), ih, List.filter_cons_of_pos c]
          rfl
        · rw [List.filterMap_cons_none (by show (if p x = true then some (V.str x) else none) = _; rw [if_neg c]), ih, List.filter_cons_of_neg c]
    rw [e] at hacc
    exact hd H s1 hacc
end
end CP

set_option Elab.async false
set_option linter.all false
set_option maxRecDepth 100000
set_option maxHeartbeats 4000000
set_option autoImplicit false
/-! lists of texts: remove, count -/
namespace CP
open L2 PySem PySem.Spec PyProof.Rows
def isTxt (k : Str) : Value → Bool
  | .str z _ => z == k
  | _ => false
theorem txt_beq (x y : Str) : (x.cps.toList == y.cps.toList) = (x == y) := by
  rw [Bool.eq_iff_iff, beq_iff_eq, beq_iff_eq]
  refine ⟨fun h => ?_, fun h => congrArg (fun z : Str => z.cps.toList) h⟩
  cases x
  cases y
  exact congrArg Str.mk (Array.toList_inj.mp h)
theorem txt_erase : ∀ (l : List Str) (j : Nat), strL (l.eraseIdx j) = (strL l).eraseIdx j
  | [], 0 => rfl
  | [], _ + 1 => rfl
  | _ :: _, 0 => rfl
  | z :: l, j + 1 => congrArg (List.cons (V.str z)) (txt_erase l j)
theorem txt_gives {k : Str} {t : Tok} : ∀ {l : List Str} {us : List Value}, Vals (strL l) us → ∀ y ∈ us, MeetsSeq.EqGives y (.str k t) (isTxt k y)
  | [], _, .nil, y, hy => nomatch hy
  | z :: l, _, .cons (l₂ := us) ⟨tz, ez⟩ r, y, hy => by
    subst ez
    rcases List.mem_cons.mp hy with rfl | hy
    · have := PySem.SeqRoads2.EqGives.str z k tz t
      rw [txt_beq] at this
      exact this
    · exact txt_gives (l := l) r y hy
theorem txt_count {k : Str} : ∀ {l : List Str} {us : List Value}, Vals (strL l) us → us.countP (isTxt k) = l.count k
  | [], _, .nil => rfl
  | z :: l, _, .cons (l₂ := us) ⟨tz, ez⟩ r => by
    subst ez
    have ih := txt_count (k := k) (l := l) r
    rw [List.countP_cons, List.count_cons, ih]
    rfl
theorem erase_at {k : Str} : ∀ {l : List Str}, k ∈ l → ∃ j, l[j]? = some k ∧ (∀ m, m < j → l[m]? ≠ some k) ∧ l.erase k = l.eraseIdx j
  | [], h => nomatch h
  | z :: l, h => by
    by_cases e : z = k
    · subst e
      exact ⟨0, rfl, fun _ h => absurd h (Nat.not_lt_zero _), by rw [List.erase_cons_head]; rfl⟩
    · obtain ⟨j, h1, h2, h3⟩ := erase_at (l := l) ((List.mem_cons.mp h).resolve_left (Ne.symm e))
      refine ⟨j + 1, h1, fun m hm => ?_, ?_⟩
      · cases m with
        | zero => exact fun z => e (Option.some.inj z)
        | succ m => exact h2 m (by omega)
      · rw [List.erase_cons_tail (by simpa using e), h3]
        rfl
section
variable {X : Cx}
def rRemS : V → List V → Hp → VK → Prop := fun x xs H Q => ∃ (l : Addr) (ns : List Str) (k : Str), x = .ref l ∧ xs = [.str k] ∧ H l = some (.lst (strL ns)) ∧ k ∈ ns ∧ Q .non (upd H l (.lst (strL (ns.erase k))))
theorem mt_remS : MtM X "list.remove" rRemS := by
  intro pins s σ H x xs v us Q I rx rxs ⟨l, ns, k, ex, exs, hH, hk, q⟩
  subst ex exs
  obtain ⟨j, hj, hno, hr⟩ := erase_at hk
  cases rx
  obtain ⟨u, eu, t, et⟩ := rxs.one
  subst eu et
  obtain ⟨z, its, n, r, hl, e⟩ := I.lstM hH
  have gv := txt_gives (k := k) (t := t) r
  have ln : its.length = ns.length := by rw [← r.length, strL_len]
  rw [strL_len] at hl z
  have jn : j < ns.length := (List.getElem?_eq_some_iff.mp hj).1
  have at_ : ∀ (m : Nat) (hm : m < its.toArray.size), ∃ tm, its.toArray[m] = .str (ns[m]'(by rw [List.size_toArray] at hm; omega)) tm := fun m hm => by
    have hm' : m < ns.length := by rw [List.size_toArray] at hm; omega
    obtain ⟨w, hw, tm, ew⟩ := r.get (i := m) (x := .str ns[m]) (by unfold strL; rw [List.getElem?_map, List.getElem?_eq_getElem hm']; rfl)
    subst ew
    obtain ⟨_, h2⟩ := List.getElem?_eq_some_iff.mp hw
    exact ⟨tm, by simpa using h2⟩
  have js : j < its.toArray.size := by rw [List.size_toArray]; omega
  refine call_meets PySem.F.slot_list_remove ⟨_, e, rfl⟩ PySem.F.entry_list_remove (PySem.F.args_list_remove_2 _ _)
    (MeetsSeq.list_remove l its.toArray n (.str k t) (isTxt k) (fun y hy => gv y (by simpa using hy)) j js ?_ (fun m hm lt => ?_) (by rw [List.size_toArray]; omega)) ⟨e, .non, _, I.lset (its' := its.eraseIdx j) (t' := s.toks) (ys := strL (ns.erase k)) hH e ?_ ?_ ?_, rfl, q⟩
  · obtain ⟨tm, em⟩ := at_ j js
    rw [em, (List.getElem?_eq_some_iff.mp hj).2]
    exact beq_self_eq_true k
  · obtain ⟨tm, em⟩ := at_ m hm
    rw [em]
    refine beq_eq_false_iff_ne.mpr fun h => hno m lt ?_
    have hm' : m < ns.length := by omega
    rw [List.getElem?_eq_getElem hm', h]
  · show its.toArray.eraseIdxIfInBounds j = (its.eraseIdx j).toArray
    rw [List.eraseIdxIfInBounds_toArray]
  · have e1 : strL (ns.erase k) = (strL ns).eraseIdx j := by
      rw [hr]
      exact txt_erase ns j
    rw [e1]
    exact r.eraseIdx j
  · rw [strL_len]
    have := List.length_erase_le (a := k) (l := ns)
    omega
def rCntS (K : PySem.W.Frag) : V → List V → Hp → VK → Prop := fun x xs H Q => ∃ (p : Addr) (ns : List Str) (k : Str), x = .ref p ∧ xs = [.str k] ∧ SqL K H p (strL ns) ∧ Q (.int (ns.count k : Nat)) H
theorem mt_cntS : MtR X "list.count" (rCntS X.K) := by
  intro pins s σ H x xs v us Q I rx rxs ⟨p, ns, k, ex, exs, hs, q⟩
  subst ex exs
  cases rx
  obtain ⟨u, eu, t, et⟩ := rxs.one
  subst eu et
  obtain ⟨its, rv, ⟨⟨cls, dd, data, sl⟩, n, ho, hc, hdn, hd⟩, hlen⟩ := I.list hs
  simp only at hc hd
  subst hc hd
  have gv := txt_gives (k := k) (t := t) rv
  have cn : its.toArray.toList.countP (isTxt k) = ns.count k := txt_count rv
  refine call_meets PySem.F.slot_list_count ⟨_, ho, rfl⟩ PySem.F.entry_list_count (PySem.F.args_list_count_2 _ _)
    (SeqAt.list_countAt p its.toArray n dd sl (.str k t) (isTxt k)) ⟨ho, fun y hy => (gv y (by simpa using hy)).at _ _, .int (ns.count k : Nat), H, I.tok _, ⟨s.toks, ?_⟩, q⟩
  show Value.int ((its.toArray.toList.countP (isTxt k) : Nat) : Int) s.toks = _
  rw [cn]
end
section
variable {K : PySem.W.Frag} {H : Hp} {Q : VK} {l : Addr} {ns : List Str} {xs : List V} {k : Str} {i : Int} {y : V}
theorem r_remS (h : H l = some (.lst (strL ns))) (hk : k ∈ ns) (q : ∀ H', SB l H H' → H' l = some (.lst (strL (ns.erase k))) → Q .non H') : rRemS (.ref l) [.str k] H Q := ⟨l, ns, k, rfl, rfl, h, hk, q _ sb_upd upd_same⟩
theorem r_cntS (h : SqL K H l (strL ns)) (q : Q (.int (ns.count k : Nat)) H) : rCntS K (.ref l) [.str k] H Q := ⟨l, ns, k, rfl, rfl, h, q⟩
def rInsL : V → List V → Hp → VK → Prop := fun x vs H Q => ∃ (l : Addr) (xs : List V) (i : Int) (y : V), x = .ref l ∧ vs = [.int i, y] ∧ H l = some (.lst xs) ∧ xs.length < sizeLine ∧ 0 ≤ i ∧ i < 2 ^ 63 ∧ Q .non (upd H l (.lst (xs.take i.toNat ++ [y] ++ xs.drop i.toNat)))
theorem r_insL (h : H l = some (.lst xs)) (hz : xs.length < sizeLine) (h0 : 0 ≤ i) (h1 : i < 2 ^ 63) (q : ∀ H', SB l H H' → H' l = some (.lst (xs.take i.toNat ++ [y] ++ xs.drop i.toNat)) → Q .non H') : rInsL (.ref l) [.int i, y] H Q := ⟨l, xs, i, y, rfl, rfl, h, hz, h0, h1, q _ sb_upd upd_same⟩
end
theorem mt_insL {X : Cx} : MtR X "list.insert" rInsL := mt_insert
end CP

set_option Elab.async false
set_option linter.all false
set_option maxRecDepth 100000
set_option maxHeartbeats 4000000
set_option autoImplicit false
/-! what the functions of plain compute -/
namespace CP
open L2 PySem PyProof.Rows
theorem drop_succ {α : Type} {l : List α} {i : Nat} {x : α} (h : l[i]? = some x) : l.drop i = x :: l.drop (i + 1) := by
  obtain ⟨h1, h2⟩ := List.getElem?_eq_some_iff.mp h
  rw [List.drop_eq_getElem_cons h1, h2]
/-- a product taken out of another -/
def restOf : List Str → List Str → Option (List Str)
  | l, [] => some l
  | l, k :: o => if k ∈ l then restOf (l.erase k) o else none
theorem restOf_len : ∀ {o l m : List Str}, restOf l o = some m → m.length ≤ l.length
  | [], l, m, h => by cases h; exact Nat.le_refl _
  | k :: o, l, m, h => by
    unfold restOf at h
    split at h
    · exact Nat.le_trans (restOf_len h) List.length_erase_le
    · cases h
theorem restOf_mem : ∀ {o l m : List Str}, restOf l o = some m → ∀ x ∈ m, x ∈ l
  | [], l, m, h, x, hx => by cases h; exact hx
  | k :: o, l, m, h, x, hx => by
    unfold restOf at h
    split at h
    · exact List.mem_of_mem_erase (restOf_mem h x hx)
    · cases h
/-- the first side's step times its size divides the second one's step -/
def aheadB (r s : Sd) : Bool := (restOf s.2.2 (r.2.1 ++ r.2.2)).isSome
/-- the sides laid one by one in their order -/
def ordGo : List Sd → List Sd → List Sd ⊕ (Sd × Sd)
  | found, [] => .inl found
  | found, r :: rs => if r.2.1 = [] then ordGo found rs else
      match found.filter fun f => !aheadB f r && !aheadB r f with
      | w :: _ => .inr (w, r)
      | [] => ordGo (found.take (found.filter fun f => aheadB f r).length ++ [r] ++ found.drop (found.filter fun f => aheadB f r).length) rs
def orderM (rows : List Sd) : List Sd ⊕ (Sd × Sd) := ordGo [] rows
theorem ordGo_inl : ∀ {rs f fs : List Sd}, ordGo f rs = .inl fs → (∀ x ∈ fs, x ∈ f ∨ x ∈ rs) ∧ fs.length ≤ f.length + rs.length
  | [], f, fs, h => by cases h; exact ⟨fun x hx => .inl hx, by simp⟩
  | r :: rs, f, fs, h => by
    unfold ordGo at h
    split at h
    · obtain ⟨h1, h2⟩ := ordGo_inl h
      exact ⟨fun x hx => (h1 x hx).imp id (List.mem_cons_of_mem _), by rw [List.length_cons]; omega⟩
    · split at h
      · cases h
      · obtain ⟨h1, h2⟩ := ordGo_inl h
        refine ⟨fun x hx => ?_, ?_⟩
        · rcases h1 x hx with z | z
          · rcases List.mem_append.mp z with z | z
            · rcases List.mem_append.mp z with z | z
              · exact .inl (List.mem_of_mem_take z)
              · exact .inr (by rw [List.mem_singleton.mp z]; exact List.mem_cons_self ..)
            · exact .inl (List.mem_of_mem_drop z)
          · exact .inr (List.mem_cons_of_mem _ z)
        · rw [List.length_append, List.length_append, List.length_take, List.length_drop, List.length_singleton] at h2
          rw [List.length_cons]
          omega
theorem ordGo_inr : ∀ {rs f : List Sd} {u v : Sd}, ordGo f rs = .inr (u, v) → (u ∈ f ∨ u ∈ rs) ∧ v ∈ rs
  | [], f, u, v, h => by cases h
  | r :: rs, f, u, v, h => by
    unfold ordGo at h
    split at h
    · obtain ⟨h1, h2⟩ := ordGo_inr h
      exact ⟨h1.imp id (List.mem_cons_of_mem _), List.mem_cons_of_mem _ h2⟩
    · split at h
      · rename_i w ws e
        cases h
        have : u ∈ f.filter fun f => !aheadB f r && !aheadB r f := by rw [e]; exact List.mem_cons_self ..
        exact ⟨.inl (List.mem_filter.mp this).1, List.mem_cons_self ..⟩
      · obtain ⟨h1, h2⟩ := ordGo_inr h
        refine ⟨?_, List.mem_cons_of_mem _ h2⟩
        rcases h1 with z | z
        · rcases List.mem_append.mp z with z | z
          · rcases List.mem_append.mp z with z | z
            · exact .inl (List.mem_of_mem_take z)
            · exact .inr (by rw [List.mem_singleton.mp z]; exact List.mem_cons_self ..)
          · exact .inl (List.mem_of_mem_drop z)
        · exact .inr (List.mem_cons_of_mem _ z)
theorem order_inl {rows fs : List Sd} (h : orderM rows = .inl fs) : (∀ x ∈ fs, x ∈ rows) ∧ fs.length ≤ rows.length := by
  obtain ⟨h1, h2⟩ := ordGo_inl h
  exact ⟨fun x hx => (h1 x hx).resolve_left (fun z => nomatch z), by simpa using h2⟩
theorem order_inr {rows : List Sd} {u v : Sd} (h : orderM rows = .inr (u, v)) : u ∈ rows ∧ v ∈ rows := by
  obtain ⟨h1, h2⟩ := ordGo_inr h
  exact ⟨h1.resolve_left (fun z => nomatch z), h2⟩
theorem filter_opt {α : Type} (p : α → Bool) (l : List α) : (l.map fun r => if p r = true then some r else none).filterMap id = l.filter p := by
  induction l with
  | nil => rfl
  | cons a l ih =>
    rw [List.map_cons, List.filter_cons]
    cases e : p a with
    | true => simp only [if_true, List.filterMap_cons, id_eq]; rw [ih]
    | false => simp only [Bool.false_eq_true, if_false, List.filterMap_cons, id_eq]; exact ih
theorem SideAt.hid {D : Addr} {H1 H : Hp} {v : V} {r : Sd} (h : SideAt H1 v r) (hD : H1 D = none) (s : Same H1 H) : SideAt (hide D H) v r := by
  have := hide_mono (D := D) s
  rw [hide_none hD] at this
  exact h.mono this
section
variable {K : PySem.W.Frag} {a : Addr} {g : TG} {tt : TT} {te : TE} {vs : List Nat} {σ : L2.St} {H1 : Hp} {D : Addr} {Qd : Hp → Prop}
/-- a comprehension over sides that leaves some out -/
theorem lc_sdF {xs : List V} {fs : List Sd} (p : Sd → Bool) (pr : Paired (SideAt H1) xs fs) (hD : H1 D = none) (ha : SqL K H1 a xs) (hz : fs.length < sizeLine)
    (hs : ∀ (i : Nat) (x : V) (r : Sd) (H : Hp) (N : Hp → Prop), xs[i]? = some x → fs[i]? = some r → SideAt H x r → Same H1 H → (∀ H', p r = false → Same H H' → N H') → (∀ H', p r = true → Same H H' → ∃ acc, H' D = some (.lst acc) ∧ acc.length < sizeLine ∧ N (upd H' D (.lst (acc ++ [x])))) →
      g x (wipe σ vs) H fun σ2 H2 => wipe σ2 vs = wipe σ vs ∧ tt σ2 H2 fun b H3 => if b = true then te σ2 H3 fun y H4 => ∃ acc, H4 D = some (.lst acc) ∧ acc.length < sizeLine ∧ N (upd H4 D (.lst (acc ++ [y]))) else N H3)
    (hd : ∀ H acc, Same H1 H → H D = some (.lst acc) → Paired (SideAt H) acc (fs.filter p) → Qd H) :
    ∃ W : Nat → Nat → Hp → Prop, (∃ m, W 0 m (upd H1 D (.lst []))) ∧ ∀ i m H, W i m H →
      ((Itl K a).stop i H ∧ Qd H) ∨ ((Itl K a).go i H ∧ ∃ Nx : Hp → Prop, (∀ H', Nx H' → ∃ m', m' < m ∧ W (i + 1) m' H') ∧ ∀ x H', (Itl K a).yld i H x H' → g x (wipe σ vs) H' fun σ2 H2 => wipe σ2 vs = wipe σ vs ∧ tt σ2 H2 fun b H3 =>
        if b = true then te σ2 H3 fun y H4 => ∃ acc, H4 D = some (.lst acc) ∧ acc.length < sizeLine ∧ Nx (upd H4 D (.lst (acc ++ [y]))) else Nx H3) := by
  refine lc_tell (β := Sd) SideAt (fs.map fun r => if p r = true then some r else none) hD ha (by rw [List.length_map]; exact pd_len pr) (by rw [List.length_map]; exact hz) (fun _ _ _ _ s z => SideAt.mono z s) (fun i x o H hx ho s1 _ N no yes => ?_) fun H acc s1 hacc pp => ?_
  · obtain ⟨r, hr, sr⟩ := pd_get pr hx
    have e : o = if p r = true then some r else none := by
      rw [List.getElem?_map, hr] at ho
      exact (Option.some.inj ho).symm
    subst e
    refine hs i x r H N hx hr (sr.mono s1) s1 (fun H' h s2 => no H' (by rw [h]; rfl) s2) fun H' h s2 => yes H' x r (by rw [h]; rfl) s2 (sr.hid hD (s1.trans s2))
  · rw [filter_opt] at pp
    exact hd H acc s1 hacc pp
end
theorem pd_take {α β : Type} {R : α → β → Prop} {xs : List α} {ys : List β} (h : Paired R xs ys) : ∀ n, Paired R (xs.take n) (ys.take n) := by
  induction h with
  | nil => intro n; rw [List.take_nil, List.take_nil]; exact .nil
  | cons h _ ih =>
    intro n
    cases n with
    | zero => exact .nil
    | succ n => exact .cons h (ih n)
theorem pd_drop {α β : Type} {R : α → β → Prop} {xs : List α} {ys : List β} (h : Paired R xs ys) : ∀ n, Paired R (xs.drop n) (ys.drop n) := by
  induction h with
  | nil => intro n; rw [List.drop_nil, List.drop_nil]; exact .nil
  | cons h t ih =>
    intro n
    cases n with
    | zero => exact .cons h t
    | succ n => exact ih n
theorem sides_dp {K : PySem.W.Frag} {H : Hp} {vs : List V} {fs : List Sd} (pr : Paired (SideAt H) vs fs) (h : ∀ f ∈ fs, letB f.1 = true ∧ Lets f.2.1 ∧ Lets f.2.2) : ∃ ds, DpAll K H vs ds ∧ PyData.canLayAll0 ds = true ∧ PyData.depthAll ds ≤ 60 := by
  have l := rows_lay (rows := fs) fun r hr => side_lay (let_lay (h r hr).1) (h r hr).2.1.lay (h r hr).2.2.lay
  exact ⟨_, rows_dp pr, l.1, Nat.le_trans l.2 (by decide)⟩
/-- the cell with one index alone -/
def loneM (rows : List Sd) (z : Str) (n : Int) : List Int := rows.map fun r => if r.1 = z then n else 0
/-- a letter that stands oftener in the first -/
def moreM (l o : List Str) : Option Str := l.find? fun k => decide (o.count k < l.count k)
def sharedGo : List Str → List Str → List Str
  | [], _ => []
  | k :: l, o => if k ∈ o then k :: sharedGo l (o.erase k) else sharedGo l o
def sharedM (l o : List Str) : List Str := sharedGo l o
def prodF (f : Str → Int) (l : List Str) : Int := l.foldl (fun a k => a * f k) 1
theorem prodF_app {f : Str → Int} {l : List Str} {k : Str} : prodF f (l ++ [k]) = prodF f l * f k := by
  unfold prodF
  rw [List.foldl_append]
  rfl
theorem foldl_pos {f : Str → Int} : ∀ {l : List Str} {a : Int}, 0 ≤ a → (∀ x ∈ l, 0 ≤ f x) → 0 ≤ l.foldl (fun a k => a * f k) a
  | [], a, h, _ => h
  | k :: l, a, h, hf => foldl_pos (l := l) (Int.mul_nonneg h (hf k (List.mem_cons_self ..))) fun x hx => hf x (List.mem_cons_of_mem _ hx)
theorem prodF_pos {f : Str → Int} {l : List Str} (h : ∀ x ∈ l, 0 ≤ f x) : 0 ≤ prodF f l := foldl_pos (by decide) h
theorem pd_rev {α β : Type} {R : α → β → Prop} {xs : List α} {ys : List β} (h : Paired R xs ys) : Paired R xs.reverse ys.reverse := by
  induction h with
  | nil => exact .nil
  | cons h _ ih => rw [List.reverse_cons, List.reverse_cons]; exact pd_app ih (pd_one h)
end CP

set_option Elab.async false
set_option linter.all false
set_option maxRecDepth 100000
set_option maxHeartbeats 4000000
set_option autoImplicit false
/-! dict comprehensions stored in a local name; over a list of texts -/
namespace CP
open L2 PySem PyProof.Rows
section
variable {X : Cx}
theorem ps_setDc {i : Nat} {nm : Str} {py : Pos} {kx vx tg iter : Expr} {ifs : List Expr} {scope : Scope} {own : List (Str × Nat)} {pos spos : Pos} {wi : TI} {g : TG} {tt : TT} {tk tv : TE} (calm : X.calm = true) (nd : X.N.Nodup) (hi : X.N[i]? = some nm) (hloc : X.env.scope.names.lookup nm = some .local)
    (sw : swapsWith (.DictComp kx vx [⟨tg, iter, ifs, 0⟩] scope pos) (some (.Name nm py)) spos.line X.env = pure true) (it : PI X tg iter wi) (blk : BlkOk X.N X.env.scope scope own)
    (dg : ∀ (s : Shared) (H : Hp) (C : Addr) (cl : List (Str × Addr)) (fp : List Addr), PG (X.blk s H scope (compEnvC scope cl C X.env) fp) tg g) (dt : ∀ (s : Shared) (H : Hp) (C : Addr) (cl : List (Str × Addr)) (fp : List Addr), PTs (X.blk s H scope (compEnvC scope cl C X.env) fp) ifs tt)
    (dk : ∀ (s : Shared) (H : Hp) (C : Addr) (cl : List (Str × Addr)) (fp : List Addr), PE (X.blk s H scope (compEnvC scope cl C X.env) fp) kx tk)
    (dv : ∀ (s : Shared) (H : Hp) (C : Addr) (cl : List (Str × Addr)) (fp : List Addr), PE (X.blk s H scope (compEnvC scope cl C X.env) fp) vx tv) (fold : ∀ x, foldedSetIterable iter X.env x = pure x := by intro _; rfl) :
    PS X (.Assign [.Name nm py] (.DictComp kx vx [⟨tg, iter, ifs, 0⟩] scope pos) spos) (tAsg (tDc wi g tt tk tv (own.map (·.2))) (gName i)) := by
  constructor
  intro pins s σ H En I h
  rw [exec_Assign_Name_used (hs := sw)]
  refine wpAny_bind (wpAny_standAt ?_)
  have h : tDc wi g tt tk tv (own.map (·.2)) σ H (fun x H1 => gName i x σ H1 En.nx) := h
  refine wpAny_bind ?_
  show wpAny _ X.A (do let _ ← comprehension (.DictComp kx vx [⟨tg, iter, ifs, 0⟩] scope pos) scope X.env (firstIterPos [⟨tg, iter, ifs, 0⟩] pos) newDict false (eval iter X.env) (some (assign (.Name nm py) X.env))) _ _ s
  refine wpAny_bind (thn (dc_core (Qf := fun _ s' => SP X pins En .next s') calm nd I it blk dg dt dk dv fold h ?_) fun _ s' z => wpAny_pure (wpAny_pure z))
  intro D C s' m H' J q ns fo
  obtain ⟨p0, p1, p2, p3, p4, p5⟩ := fo
  refine wpAny_assign_Name (store_ok2 (v := V.ref D) J nd hi (.inl hloc) rfl (fun s2 J2 ⟨a, sb, ha⟩ => ?_) (.inr hloc))
  have ca : C ≠ a := ha.elim (fun z => z ▸ p1) fun z e => p4 nm a z e.symm
  exact ⟨m, ns.sameBut sb ca, fun h3 sb3 => ⟨_, H', J2.turned (t' := s2.toks) (fun b o hb e => (sb3.2 b hb).trans e) p0 p1 p3 p4 p5, q⟩⟩
theorem swd_true {kx vx : Expr} {gs : List Comprehension} {scope : Scope} {pos py : Pos} {nm : Str} {l : Nat} {env : Env} (hf : env.scope.kind = .function) (hn : env.scope.names.lookup nm = some .local) (hl : (py.line == pos.line) = true)
    (no : (scope.names.any fun (n, k) => n == nm && (k == .local || k == .cell)) = false) : swapsWith (.DictComp kx vx gs scope pos) (some (.Name nm py)) l env = pure true := by
  have e1 : env.kindOf nm = some .local := hn
  have e2 : env.blockKind = .function := by
    unfold Env.blockKind
    rw [hf]
    rfl
  simp only [swapsWith, e2, e1, no, Expr.pos, hl]
  rfl
end
/-- a dict of numbers by letters -/
def dV (l : List (Str × Int)) : List (Key × V) := l.map fun p => (Sum.inr p.1, V.int p.2)
section
variable {K : PySem.W.Frag} {a : Addr} {g : TG} {tt : TT} {tk tv : TE} {vs : List Nat} {σ : L2.St} {H1 : Hp} {D : Addr} {Qd : Hp → Prop} {xs : List V}
theorem dc_list (Pv : Nat → Hp → Prop) (start : Pv 0 (upd H1 D (.dK []))) (stay : ∀ i H, i ≤ xs.length → Pv i H → SqL K H a xs)
    (step : ∀ i x H, xs[i]? = some x → Pv i H → g x (wipe σ vs) H fun σ2 H2 => wipe σ2 vs = wipe σ vs ∧ tt σ2 H2 fun b H3 =>
      if b = true then tk σ2 H3 fun y H4 => tv σ2 H4 fun z H5 => ∃ kvs k, y = kV k ∧ H5 D = some (.dK kvs) ∧ kvs.length < sizeLine ∧ Pv (i + 1) (upd H5 D (.dK (putK kvs k z))) else Pv (i + 1) H3) (fin : ∀ H, Pv xs.length H → Qd H) :
    ∃ W : Nat → Nat → Hp → Prop, (∃ m, W 0 m (upd H1 D (.dK []))) ∧ ∀ i m H, W i m H →
      ((Itl K a).stop i H ∧ Qd H) ∨ ((Itl K a).go i H ∧ ∃ Nx : Hp → Prop, (∀ H', Nx H' → ∃ m', m' < m ∧ W (i + 1) m' H') ∧ ∀ x H', (Itl K a).yld i H x H' → g x (wipe σ vs) H' fun σ2 H2 => wipe σ2 vs = wipe σ vs ∧ tt σ2 H2 fun b H3 =>
        if b = true then tk σ2 H3 fun y H4 => tv σ2 H4 fun z H5 => ∃ kvs k, y = kV k ∧ H5 D = some (.dK kvs) ∧ kvs.length < sizeLine ∧ Nx (upd H5 D (.dK (putK kvs k z))) else Nx H3) := by
  refine ⟨fun i m H => m = xs.length - i ∧ i ≤ xs.length ∧ Pv i H, ⟨_, rfl, Nat.zero_le _, start⟩, fun i m H ⟨em, hi, p⟩ => ?_⟩
  subst em
  have q := stay i H hi p
  rcases Nat.lt_or_ge i xs.length with lt | ge
  · refine .inr ⟨⟨xs, xs[i], q, List.getElem?_eq_getElem lt⟩, Pv (i + 1), fun H' p' => ⟨xs.length - (i + 1), by omega, rfl, lt, p'⟩, fun x H' y => ?_⟩
    obtain ⟨eH, hx⟩ := y
    cases eH
    exact step i x H (hx xs q) p
  · have e : i = xs.length := by omega
    subst e
    exact .inl ⟨⟨xs, q, (Nat.le_refl _ : xs.length ≤ xs.length)⟩, fin H p⟩
end
/-- a value laid under a letter -/
def setD : List (Str × Int) → Str → Int → List (Str × Int)
  | [], k, n => [(k, n)]
  | p :: l, k, n => if p.1 = k then (k, n) :: l else p :: setD l k n
def getD : List (Str × Int) → Str → Option Int
  | [], _ => none
  | p :: l, k => if p.1 = k then some p.2 else getD l k
theorem dV_val : ∀ (l : List (Str × Int)) (k : Str), valV (dV l) (Sum.inr k) = (getD l k).map V.int
  | [], k => rfl
  | p :: l, k => by
    show valV ((Sum.inr p.1, V.int p.2) :: dV l) (Sum.inr k) = _
    unfold getD
    by_cases e : p.1 = k
    · rw [valV_pos (by rw [e]), if_pos e]; rfl
    · rw [valV_neg (fun z => e (by injection z)), if_neg e]; exact dV_val l k
theorem setD_keys : ∀ {l : List (Str × Int)} {k : Str} {n : Int}, k ∈ l.map (·.1) → (setD l k n).map (·.1) = l.map (·.1)
  | [], k, n, h => nomatch h
  | p :: l, k, n, h => by
    unfold setD
    by_cases e : p.1 = k
    · rw [if_pos e, List.map_cons, List.map_cons, e]
    · rw [if_neg e, List.map_cons, List.map_cons, setD_keys ((List.mem_cons.mp h).resolve_left (Ne.symm e))]
theorem setD_new : ∀ {l : List (Str × Int)} {k : Str} {n : Int}, k ∉ l.map (·.1) → setD l k n = l ++ [(k, n)]
  | [], k, n, h => rfl
  | p :: l, k, n, h => by
    unfold setD
    rw [if_neg (fun e => h (by rw [List.map_cons, e]; exact List.mem_cons_self ..)), setD_new (l := l) (fun z => h (List.mem_cons_of_mem _ z))]
    rfl
theorem setD_len (l : List (Str × Int)) (k : Str) (n : Int) : (setD l k n).length ≤ l.length + 1 := by
  induction l with
  | nil => exact Nat.le_refl _
  | cons p l ih =>
    unfold setD
    split
    · rw [List.length_cons, List.length_cons]; omega
    · rw [List.length_cons, List.length_cons]; omega
theorem getD_setD : ∀ (l : List (Str × Int)) (k j : Str) (n : Int), getD (setD l k n) j = if k = j then some n else getD l j
  | [], k, j, n => rfl
  | p :: l, k, j, n => by
    unfold setD
    by_cases e : p.1 = k
    · rw [if_pos e]
      unfold getD
      by_cases f : k = j
      · rw [if_pos f, if_pos f]
      · rw [if_neg f, if_neg f, if_neg (by rw [e]; exact f)]
    · rw [if_neg e]
      unfold getD
      by_cases f : p.1 = j
      · rw [if_pos f, if_pos f, if_neg (by rw [← f]; exact Ne.symm e)]
      · rw [if_neg f, if_neg f, getD_setD l k j n]
theorem dV_any (l : List (Str × Int)) (k : Str) : ((dV l).any fun kv => decide (kv.1 = (Sum.inr k : Key))) = decide (k ∈ l.map (·.1)) := by
  unfold dV
  rw [List.any_map]
  induction l with
  | nil => rfl
  | cons p l ih =>
    rw [List.any_cons, ih]
    show (decide ((Sum.inr p.1 : Key) = Sum.inr k) || _) = _
    by_cases e : p.1 = k
    · subst e; simp
    · have : ¬ ((Sum.inr p.1 : Key) = Sum.inr k) := fun z => e (by injection z)
      rw [decide_eq_false this]
      simp [Ne.symm e]
theorem dV_put (l : List (Str × Int)) (k : Str) (n : Int) (nd : (l.map (·.1)).Nodup) : putK (dV l) (Sum.inr k) (.int n) = dV (setD l k n) := by
  unfold putK
  rw [dV_any]
  by_cases h : k ∈ l.map (·.1)
  · rw [if_pos (decide_eq_true h)]
    induction l with
    | nil => cases h
    | cons p l ih =>
      unfold setD
      by_cases e : p.1 = k
      · rw [if_pos e]
        have nk : ∀ q ∈ l, q.1 ≠ k := fun q hq z => (List.pairwise_cons.mp nd).1 q.1 (List.mem_map.mpr ⟨q, hq, rfl⟩) (e.trans z.symm)
        subst e
        show _ :: _ = _ :: _
        congr 1
        · simp
        · clear ih h nd
          induction l with
          | nil => rfl
          | cons q l ih2 =>
            have i2 := ih2 fun q hq => nk q (List.mem_cons_of_mem _ hq)
            have n2 : ¬ ((Sum.inr q.1 : Key) = Sum.inr p.1) := fun z => nk q (List.mem_cons_self ..) (by injection z)
            show _ :: _ = _ :: _
            congr 1
            exact if_neg n2
      · rw [if_neg e]
        have n2 : ¬ ((Sum.inr p.1 : Key) = Sum.inr k) := fun z => e (by injection z)
        show _ :: _ = _ :: _
        congr 1
        · exact if_neg n2
        · exact ih (List.pairwise_cons.mp nd).2 ((List.mem_cons.mp h).resolve_left (Ne.symm e))
  · rw [if_neg (by simpa using h), setD_new h]
    unfold dV
    rw [List.map_append]
    rfl
theorem r_dc {wi : TI} {g : TG} {tt : TT} {tk tv : TE} {vs : List Nat} {σ : L2.St} {H : Hp} {Q : VK} (q : wi σ H fun J H1 => ∀ D, H1 D = none → ∃ W : Nat → Nat → Hp → Prop, (∃ m, W 0 m (upd H1 D (.dK []))) ∧ ∀ i m H, W i m H →
  (J.stop i H ∧ Q (.ref D) H) ∨ (J.go i H ∧ ∃ Nx : Hp → Prop, (∀ H', Nx H' → ∃ m', m' < m ∧ W (i + 1) m' H') ∧ ∀ x H', J.yld i H x H' → g x (wipe σ vs) H' fun σ2 H2 => wipe σ2 vs = wipe σ vs ∧ tt σ2 H2 fun b H3 =>
    if b = true then tk σ2 H3 fun y H4 => tv σ2 H4 fun z H5 => ∃ kvs k, y = kV k ∧ H5 D = some (.dK kvs) ∧ kvs.length < sizeLine ∧ Nx (upd H5 D (.dK (putK kvs k z))) else Nx H3)) : tDc wi g tt tk tv vs σ H Q := q
/-- values of 2 for all letters -/
def allTwo (l : List Str) : List (Str × Int) := l.map fun k => (k, 2)
theorem allTwo_keys (l : List Str) : (allTwo l).map (·.1) = l := by
  unfold allTwo
  rw [List.map_map]
  exact List.map_id l
theorem allTwo_get {l : List Str} {k : Str} (h : k ∈ l) : getD (allTwo l) k = some 2 := by
  unfold allTwo
  induction l with
  | nil => cases h
  | cons a l ih =>
    show (if a = k then some 2 else getD _ k) = some 2
    by_cases e : a = k
    · rw [if_pos e]
    · rw [if_neg e]; exact ih ((List.mem_cons.mp h).resolve_left (Ne.symm e))
theorem allTwo_succ {l : List Str} {i : Nat} {k : Str} (h : l[i]? = some k) (nd : l.Nodup) : putK (dV (allTwo (l.take i))) (Sum.inr k) (.int 2) = dV (allTwo (l.take (i + 1))) := by
  have nk : k ∉ l.take i := fun z => by
    rw [← List.take_append_drop (i + 1) l, take_succ h] at nd
    have := (List.nodup_append.mp (List.nodup_append.mp nd).1).2.2 k z k (List.mem_singleton.mpr rfl)
    exact this rfl
  rw [dV_put _ _ _ (by rw [allTwo_keys]; exact nd.sublist (List.take_sublist ..)), setD_new (by rw [allTwo_keys]; exact nk), take_succ h]
  unfold allTwo
  rw [List.map_append]
  rfl
theorem prod_two (l : List Str) : prodF (fun _ => 2) l = 2 ^ l.length := by
  unfold prodF
  suffices ∀ (l : List Str) (a : Int), l.foldl (fun a _ => a * 2) a = a * 2 ^ l.length by rw [this, Int.one_mul]
  intro l
  induction l with
  | nil => intro a; show a = a * 2 ^ 0; rw [Int.pow_zero, Int.mul_one]
  | cons k l ih =>
    intro a
    rw [List.foldl_cons, ih, List.length_cons, Int.pow_succ, Int.mul_assoc, Int.mul_comm 2]
/-- the first gap -/
def holeGo (szs : List Str) : List Str → List Sd → Option (List (Str × Int) × Int)
  | _, [] => none
  | due, r :: fs => if r.2.2 = due then holeGo szs (srt (r.2.1 ++ r.2.2)) fs else some (allTwo szs, prodF (fun _ => 2) due)
def holeM (szs : List Str) (fs : List Sd) : Option (List (Str × Int) × Int) := holeGo szs [] fs
theorem mem_sizes {rows : List Sd} {r : Sd} (h : r ∈ rows) {x : Str} (hx : x ∈ r.2.1 ++ r.2.2) : x ∈ sizesM rows := by
  unfold sizesM
  rw [mem_sset]
  exact List.mem_flatMap.mpr ⟨r, h, hx⟩
theorem sizes_nd (rows : List Sd) : (sizesM rows).Nodup := sset_nodup _
theorem sizes_len {rows : List Sd} (h : Rows rows) : (sizesM rows).length ≤ 1200 := by
  refine Nat.le_trans (sset_len _) ?_
  have few := h.few
  suffices ∀ l : List Sd, (∀ r ∈ l, r ∈ rows) → (l.flatMap fun r => r.2.1 ++ r.2.2).length ≤ 60 * l.length by
    have := this rows fun _ h => h
    omega
  intro l
  induction l with
  | nil => intro _; exact Nat.le_refl _
  | cons r l ih =>
    intro hl
    have := ih fun x hx => hl x (List.mem_cons_of_mem _ hx)
    have a := (h.size r (hl r (List.mem_cons_self ..))).2
    have b := (h.step r (hl r (List.mem_cons_self ..))).2
    rw [List.flatMap_cons, List.length_append, List.length_append, List.length_cons]
    omega
theorem sizes_let {rows : List Sd} (h : Rows rows) : ∀ x ∈ sizesM rows, letB x = true := fun x hx => by
  unfold sizesM at hx
  rw [mem_sset] at hx
  obtain ⟨r, hr, hx⟩ := List.mem_flatMap.mp hx
  rcases List.mem_append.mp hx with z | z
  · exact (h.size r hr).1 x z
  · exact (h.step r hr).1 x z
section
variable {σ : L2.St} {H : Hp} {D : Ends} {tas : TA} {i j l : Nat}
theorem r_par3 (q : tas σ H fun vs H1 => ∃ u v w, vs = [u, v, w] ∧ D.nx (((σ.set i (some u)).set j (some v)).set l (some w)) H1) : tPar3 i j l tas D σ H := q
theorem r_three {u v w : V} {P : V → V → V → Prop} (q : P u v w) : ∃ x y z, [u, v, w] = [x, y, z] ∧ P x y z := ⟨u, v, w, rfl, q⟩
end
end CP

set_option Elab.async false
set_option linter.all false
set_option maxRecDepth 100000
set_option maxHeartbeats 4000000
set_option autoImplicit false
/-! two cells with the same place -/
namespace CP
open L2 PySem PyProof.Rows
theorem restOf_count : ∀ {o l m : List Str}, restOf l o = some m → ∀ x, l.count x = m.count x + o.count x
  | [], l, m, h, x => by cases h; simp
  | k :: o, l, m, h, x => by
    unfold restOf at h
    split at h
    · rename_i hk
      have ih := restOf_count h x
      rw [List.count_erase] at ih
      rw [List.count_cons]
      by_cases e : k = x
      · subst e
        have := List.count_pos_iff.mpr hk
        simp only [beq_self_eq_true, if_true] at ih ⊢
        omega
      · have e1 : (k == x) = false := beq_eq_false_iff_ne.mpr e
        have e2 : (x == k) = false := beq_eq_false_iff_ne.mpr (Ne.symm e)
        simp only [e1, e2, Bool.false_eq_true, if_false] at ih ⊢
        omega
    · cases h
theorem restOf_some : ∀ {o l : List Str}, (∀ x, o.count x ≤ l.count x) → ∃ m, restOf l o = some m
  | [], l, h => ⟨l, rfl⟩
  | k :: o, l, h => by
    have hk : k ∈ l := List.count_pos_iff.mp (by have := h k; rw [List.count_cons_self] at this; omega)
    unfold restOf
    rw [if_pos hk]
    refine restOf_some fun x => ?_
    have := h x
    rw [List.count_cons] at this
    rw [List.count_erase]
    by_cases e : k = x
    · subst e
      simp only [beq_self_eq_true, if_true] at this ⊢
      omega
    · have e1 : (k == x) = false := beq_eq_false_iff_ne.mpr e
      have e2 : (x == k) = false := beq_eq_false_iff_ne.mpr (Ne.symm e)
      simp only [e1, e2, Bool.false_eq_true, if_false] at this ⊢
      omega
theorem restOf_none {o l : List Str} (h : restOf l o = none) : ∃ x, l.count x < o.count x := by
  refine Classical.byContradiction fun n => ?_
  obtain ⟨m, hm⟩ := restOf_some (o := o) (l := l) fun x => Nat.le_of_not_lt fun z => n ⟨x, z⟩
  rw [h] at hm
  cases hm
theorem shared_count : ∀ (l o : List Str) (x : Str), (sharedGo l o).count x = min (l.count x) (o.count x)
  | [], o, x => by simp [sharedGo]
  | k :: l, o, x => by
    unfold sharedGo
    rw [List.count_cons]
    by_cases hk : k ∈ o
    · rw [if_pos hk, List.count_cons, shared_count l _ x, List.count_erase]
      by_cases e : k = x
      · subst e
        have := List.count_pos_iff.mpr hk
        simp only [beq_self_eq_true, if_true]
        omega
      · have e1 : (k == x) = false := beq_eq_false_iff_ne.mpr e
        have e2 : (x == k) = false := beq_eq_false_iff_ne.mpr (Ne.symm e)
        simp only [e1, e2, Bool.false_eq_true, if_false]
        omega
    · rw [if_neg hk, shared_count l o x]
      by_cases e : k = x
      · subst e
        rw [List.count_eq_zero.mpr hk]
        omega
      · have e1 : (k == x) = false := beq_eq_false_iff_ne.mpr e
        simp only [e1, Bool.false_eq_true, if_false]
        omega
theorem shared_len : ∀ (l o : List Str), (sharedGo l o).length ≤ l.length
  | [], o => Nat.le_refl _
  | k :: l, o => by
    unfold sharedGo
    split
    · rw [List.length_cons, List.length_cons]; have := shared_len l (o.erase k); omega
    · rw [List.length_cons]; have := shared_len l o; omega
theorem shared_rest (l o : List Str) : (∃ m, restOf l (sharedM l o) = some m) ∧ ∃ m, restOf o (sharedM l o) = some m :=
  ⟨restOf_some fun x => by unfold sharedM; rw [shared_count]; omega, restOf_some fun x => by unfold sharedM; rw [shared_count]; omega⟩
/-- neither is ahead of the other -/
theorem ordGo_apart : ∀ {rs f : List Sd} {u v : Sd}, ordGo f rs = .inr (u, v) → aheadB u v = false ∧ aheadB v u = false
  | [], f, u, v, h => by cases h
  | r :: rs, f, u, v, h => by
    unfold ordGo at h
    split at h
    · exact ordGo_apart h
    · split at h
      · rename_i w ws e
        cases h
        have : u ∈ f.filter fun f => !aheadB f r && !aheadB r f := by rw [e]; exact List.mem_cons_self ..
        have := (List.mem_filter.mp this).2
        rw [Bool.and_eq_true, Bool.not_eq_true', Bool.not_eq_true'] at this
        exact this
      · exact ordGo_apart h
/-- where one step divides the other: a letter that stands oftener in the size -/
theorem more_some {l o s : List Str} (h : restOf o (s ++ l) = none) {m : List Str} (h1 : restOf l (sharedM l o) = some []) (h2 : restOf o (sharedM l o) = some m) : ∃ k, moreM s m = some k := by
  obtain ⟨x, hx⟩ := restOf_none h
  have c1 := restOf_count h1 x
  have c2 := restOf_count h2 x
  rw [List.count_append] at hx
  have hm : m.count x < s.count x := by
    rw [List.count_nil] at c1
    omega
  cases e : moreM s m with
  | some k => exact ⟨k, rfl⟩
  | none =>
    have := List.find?_eq_none.mp e x (List.count_pos_iff.mp (by omega))
    rw [decide_eq_true hm] at this
    exact absurd rfl this
theorem shared_swap_count (l o : List Str) (x : Str) : (sharedM l o).count x = (sharedM o l).count x := by
  unfold sharedM
  rw [shared_count, shared_count, Nat.min_comm]
/-- the same with the two exchanged -/
theorem more_some' {l o s : List Str} (h : restOf l (s ++ o) = none) {m : List Str} (h1 : restOf o (sharedM l o) = some []) (h2 : restOf l (sharedM l o) = some m) : ∃ k, moreM s m = some k := by
  obtain ⟨x, hx⟩ := restOf_none h
  have c1 := restOf_count h1 x
  have c2 := restOf_count h2 x
  rw [List.count_append] at hx
  have hm : m.count x < s.count x := by
    rw [List.count_nil] at c1
    omega
  cases e : moreM s m with
  | some k => exact ⟨k, rfl⟩
  | none =>
    have := List.find?_eq_none.mp e x (List.count_pos_iff.mp (by omega))
    rw [decide_eq_true hm] at this
    exact absurd rfl this
theorem more_prop {s m : List Str} {k : Str} (h : moreM s m = some k) : k ∈ s ∧ m.count k < s.count k :=
  ⟨List.mem_of_find?_eq_some h, of_decide_eq_true (by simpa using List.find?_some h)⟩
/-- the value of a letter -/
def atD (v : List (Str × Int)) (k : Str) : Int := (getD v k).getD 0
/-- the letter's value is doubled until the size is greater -/
def grow (one second : List Str) (name : Str) : Nat → List (Str × Int) → List (Str × Int)
  | 0, v => v
  | n + 1, v => if prodF (atD v) one ≤ prodF (atD v) second then grow one second name n (setD v name (atD v name * 2)) else v
def setAll (v : List (Str × Int)) (ks : List Str) (n : Int) : List (Str × Int) := ks.foldl (fun v k => setD v k n) v
def clash2 (rows : List Sd) (vals : List (Str × Int)) (one other : Sd) (second : List Str) : Option (List (Str × Int) × List Int × List Int) :=
  match moreM one.2.1 second with
  | none => none
  | some name => some (grow one.2.1 second name 100 vals, loneM rows one.1 (prodF (atD (grow one.2.1 second name 100 vals)) second), loneM rows other.1 1)
def clashM (rows : List Sd) : Option (List (Str × Int) × List Int × List Int) :=
  match orderM rows with
  | .inl _ => none
  | .inr (one, other) =>
    match restOf one.2.2 (sharedM one.2.2 other.2.2), restOf other.2.2 (sharedM one.2.2 other.2.2) with
    | some first, some second =>
      if first ≠ [] then
        if second ≠ [] then some (setAll (setAll (allTwo (sizesM rows)) first (2 ^ second.length)) second (2 ^ first.length), loneM rows one.1 1, loneM rows other.1 1)
        else clash2 rows (allTwo (sizesM rows)) other one first
      else clash2 rows (allTwo (sizesM rows)) one other second
    | _, _ => none
theorem setAll_keys {v : List (Str × Int)} {n : Int} : ∀ {ks : List Str}, (∀ k ∈ ks, k ∈ v.map (·.1)) → (setAll v ks n).map (·.1) = v.map (·.1) := by
  intro ks
  unfold setAll
  induction ks generalizing v with
  | nil => intro _; rfl
  | cons k ks ih =>
    intro h
    have e := setD_keys (n := n) (h k (List.mem_cons_self ..))
    rw [List.foldl_cons, ih (fun x hx => by rw [e]; exact h x (List.mem_cons_of_mem _ hx)), e]
theorem setAll_succ {v : List (Str × Int)} {ks : List Str} {k : Str} {n : Int} : setAll v (ks ++ [k]) n = setD (setAll v ks n) k n := by
  unfold setAll
  rw [List.foldl_append]
  rfl
theorem foldl_mul {f : Str → Int} : ∀ {l : List Str} {a : Int}, l.foldl (fun a k => a * f k) a = a * prodF f l
  | [], a => by unfold prodF; rw [List.foldl_nil, List.foldl_nil, Int.mul_one]
  | k :: l, a => by
    unfold prodF
    rw [List.foldl_cons, List.foldl_cons, foldl_mul, foldl_mul, Int.one_mul, Int.mul_assoc]
theorem prodF_cons {f : Str → Int} {k : Str} {l : List Str} : prodF f (k :: l) = f k * prodF f l := by
  show (k :: l).foldl (fun a k => a * f k) 1 = _
  rw [List.foldl_cons, foldl_mul, Int.one_mul]
/-- behind i doublings -/
def Grown (szs : List Str) (name : Str) (i : Nat) (v : List (Str × Int)) : Prop := v.map (·.1) = szs ∧ ∀ k ∈ szs, getD v k = some (if k = name then 2 ^ (i + 1) else 2)
theorem grown_zero (szs : List Str) (name : Str) : Grown szs name 0 (allTwo szs) := ⟨allTwo_keys szs, fun k hk => by
  rw [allTwo_get hk]
  split <;> rfl⟩
theorem Grown.succ {szs : List Str} {name : Str} {i : Nat} {v : List (Str × Int)} (h : Grown szs name i v) (hn : name ∈ szs) : Grown szs name (i + 1) (setD v name (atD v name * 2)) := by
  refine ⟨by rw [setD_keys (by rw [h.1]; exact hn)]; exact h.1, fun k hk => ?_⟩
  rw [getD_setD]
  by_cases e : name = k
  · subst e
    rw [if_pos rfl, if_pos rfl]
    unfold atD
    rw [h.2 name hn, if_pos rfl]
    show some ((2 : Int) ^ (i + 1) * 2) = _
    rw [← Int.pow_succ]
  · rw [if_neg e, h.2 k hk, if_neg (Ne.symm e), if_neg (Ne.symm e)]
theorem Grown.at_ {szs : List Str} {name : Str} {i : Nat} {v : List (Str × Int)} (h : Grown szs name i v) {k : Str} (hk : k ∈ szs) : atD v k = 2 ^ (if k = name then i + 1 else 1) := by
  unfold atD
  rw [h.2 k hk]
  split <;> rfl
theorem Grown.prod {szs : List Str} {name : Str} {i : Nat} {v : List (Str × Int)} (h : Grown szs name i v) : ∀ {l : List Str}, (∀ k ∈ l, k ∈ szs) → prodF (atD v) l = 2 ^ (l.length + i * l.count name)
  | [], _ => rfl
  | k :: l, hl => by
    rw [prodF_cons, h.prod fun x hx => hl x (List.mem_cons_of_mem _ hx), h.at_ (hl k (List.mem_cons_self ..)), ← Int.pow_add, List.length_cons, List.count_cons]
    congr 1
    by_cases e : k = name
    · subst e
      rw [if_pos rfl]
      simp only [beq_self_eq_true, if_true, Nat.mul_add]
      omega
    · rw [if_neg e]
      have e1 : (k == name) = false := beq_eq_false_iff_ne.mpr e
      simp only [e1, Bool.false_eq_true, if_false, Nat.add_zero]
      omega
theorem two_le {a b : Nat} (h : a ≤ b) : (2 : Int) ^ a ≤ 2 ^ b := by
  have := Nat.pow_le_pow_right (n := 2) (by decide) h
  exact_mod_cast this
theorem two_lt {a b : Nat} (h : a < b) : (2 : Int) ^ a < 2 ^ b := by
  have := Nat.pow_lt_pow_right (a := 2) (by decide) h
  exact_mod_cast this
theorem Grown.ends {szs : List Str} {name : Str} {i : Nat} {v : List (Str × Int)} (h : Grown szs name i v) {l m : List Str} (hl : ∀ k ∈ l, k ∈ szs) (hm : ∀ k ∈ m, k ∈ szs) (c : m.count name < l.count name) (lm : m.length ≤ 12) (le : prodF (atD v) l ≤ prodF (atD v) m) : i ≤ 12 := by
  rw [h.prod hl, h.prod hm] at le
  refine Classical.byContradiction fun n => ?_
  have : m.length + i * m.count name < l.length + i * l.count name := by
    have : i * (m.count name + 1) ≤ i * l.count name := Nat.mul_le_mul_left _ c
    rw [Nat.mul_add, Nat.mul_one] at this
    omega
  have := two_lt this
  omega
theorem grow_step {one second : List Str} {name : Str} {n : Nat} {v : List (Str × Int)} : grow one second name (n + 1) v = if prodF (atD v) one ≤ prodF (atD v) second then grow one second name n (setD v name (atD v name * 2)) else v := rfl
theorem two_400 {a : Nat} (h : a ≤ 200) : (2 : Int) ^ a < 2 ^ 400 := two_lt (by omega)
theorem Grown.val {szs : List Str} {name k : Str} {i : Nat} {v : List (Str × Int)} (h : Grown szs name i v) (hk : k ∈ szs) (hi : i ≤ 13) : valV (dV v) (Sum.inr k) = some (.int (atD v k)) ∧ 0 ≤ atD v k ∧ atD v k < 2 ^ 400 := by
  refine ⟨?_, ?_, ?_⟩
  · rw [dV_val, h.2 k hk]
    unfold atD
    rw [h.2 k hk]
    rfl
  · rw [h.at_ hk]
    exact Int.le_of_lt (Int.pow_pos (by decide))
  · rw [h.at_ hk]
    exact two_400 (by split <;> omega)
theorem Grown.low {szs : List Str} {name : Str} {i : Nat} {v : List (Str × Int)} (h : Grown szs name i v) {l : List Str} (hl : ∀ k ∈ l, k ∈ szs) (ll : l.length ≤ 12) (hi : i ≤ 13) (j : Nat) : prodF (atD v) (l.take j) < 2 ^ 400 := by
  rw [h.prod fun k hk => hl k (List.mem_of_mem_take hk)]
  refine two_400 ?_
  have c : (l.take j).count name ≤ (l.take j).length := List.count_le_length
  have t : (l.take j).length ≤ 12 := by rw [List.length_take]; omega
  have : i * (l.take j).count name ≤ 13 * 12 := Nat.mul_le_mul hi (by omega)
  omega
theorem grow_last {one second : List Str} {name : Str} {n : Nat} {v : List (Str × Int)} (h : ¬ prodF (atD v) one ≤ prodF (atD v) second) : grow one second name n v = v := by
  cases n with
  | zero => rfl
  | succ n => rw [grow_step, if_neg h]
theorem dV_len {l : List (Str × Int)} {szs : List Str} (h : l.map (·.1) = szs) : (dV l).length = szs.length := by
  rw [← h, List.length_map]
  unfold dV
  rw [List.length_map]
/-- the cell at a place, side by side from the last one -/
def foundGo (f : Str → Int) : List Sd → List (Str × Int) × Int → List (Str × Int) × Int
  | [], a => a
  | r :: fs, a => foundGo f fs (setD a.1 r.1 (min (a.2 / prodF f r.2.2) (prodF f r.2.1 - 1)), a.2 - min (a.2 / prodF f r.2.2) (prodF f r.2.1 - 1) * prodF f r.2.2)
def foundM (rows fs : List Sd) (f : Str → Int) (n : Int) : Option (List Int) :=
  if (foundGo f fs.reverse ([], n)).2 = 0 then some (rows.map fun r => (getD (foundGo f fs.reverse ([], n)).1 r.1).getD 0) else none
theorem prodF_le {f : Str → Int} : ∀ {l : List Str}, (∀ k ∈ l, 1 ≤ f k ∧ f k < 2 ^ 10) → 1 ≤ prodF f l ∧ prodF f l ≤ 2 ^ (10 * l.length)
  | [], _ => ⟨Int.le_refl 1, Int.le_refl 1⟩
  | k :: l, h => by
    obtain ⟨a, b⟩ := h k (List.mem_cons_self ..)
    obtain ⟨c, d⟩ := prodF_le (l := l) fun x hx => h x (List.mem_cons_of_mem _ hx)
    rw [prodF_cons, List.length_cons, Nat.mul_add, Nat.mul_one, Int.pow_add, Int.mul_comm]
    refine ⟨?_, Int.mul_le_mul d (by omega) (by omega) (Int.le_of_lt (Int.pow_pos (by decide)))⟩
    have := Int.mul_le_mul c a (by decide) (by omega)
    rwa [Int.mul_one] at this
/-! what is answered, as data -/
def OwnAt (rows : List Sd) (v : V) (H : Hp) : Prop := match orderM rows with
  | .inl fs => ∃ p, v = .ref p ∧ H p = some (.lst (strL (fs.map (·.1))))
  | .inr _ => v = .non
def ClashAt (rows : List Sd) (v : V) (H : Hp) : Prop := match clashM rows with
  | some (kv, c1, c2) => (kv.map (·.1)).Nodup ∧ ∃ t d x y, v = .ref t ∧ H t = some (.tup [.ref d, .ref x, .ref y]) ∧ H d = some (.dK (dV kv)) ∧ H x = some (.lst (c1.map V.int)) ∧ H y = some (.lst (c2.map V.int))
  | none => v = .non
def HoleAt (rows fs : List Sd) (v : V) (H : Hp) : Prop := match holeM (sizesM rows) fs with
  | some (kv, n) => (kv.map (·.1)).Nodup ∧ ∃ t d, v = .ref t ∧ H t = some (.tup [.ref d, .int n]) ∧ H d = some (.dK (dV kv))
  | none => v = .non
def CellAt (rows fs : List Sd) (f : Str → Int) (n : Int) (v : V) (H : Hp) : Prop := match foundM rows fs f n with
  | some c => ∃ p, v = .ref p ∧ H p = some (.lst (c.map V.int))
  | none => v = .non
end CP

set_option Elab.async false
set_option linter.all false
set_option maxRecDepth 100000
set_option maxHeartbeats 4000000
set_option autoImplicit false
/-! dicts that are walked: locked for that long -/
namespace CP
open L2 PySem PyProof.Rows
section
variable {K : PySem.W.Frag} {σ : L2.St} {H : Hp} {Q : VK} {d : Addr} {kvs : List (Key × V)} {t td : TE} {od : Obj} {z : Str} {v : V}
theorem r_lockE (h : H d = some (.dK kvs)) (q : ∀ od H1, H1 d = some (.frz od (.dK kvs)) → (∀ b o, b ≠ d → H b = some o → H1 b = some o) → (∀ H', Same H1 H' → Same H (upd H' d (.dK kvs))) → t σ H1 fun v H' => H' d = some (.frz od (.dK kvs)) ∧ Q v (upd H' d (.dK kvs))) : tLockE t σ H Q :=
  ⟨d, _, h, by trivial, fun od => q od _ upd_same (fun b o ne e => by rw [upd_ne ne]; exact e) fun H' s b o e => by
    by_cases ne : b = d
    · subst ne
      rw [h] at e
      rw [upd_same, e]
    · rw [upd_ne ne]
      exact s b o (by rw [upd_ne ne]; exact e)⟩
theorem r_iKeys {R : It → Hp → Prop} (q : td σ H fun x H1 => ∃ d o, x = .ref d ∧ ((∃ kvs, H1 d = some (.frz o (.dK kvs)) ∧ R (Itk d o kvs) H1) ∨ ∃ kvs, H1 d = some (.frz o (.dT kvs)) ∧ R (Itkt d o kvs) H1)) : iKeys td σ H R := q
theorem r_dgetF {P : V → Prop} (h : H d = some (.frz od (.dK kvs))) (e : valV kvs (Sum.inr z) = some v) (q : P v) : ∃ a v, V.ref d = .ref a ∧ DGet H a (.str z) (some v) ∧ P v :=
  ⟨d, v, rfl, .inl ⟨kvs, Sum.inr z, .inr ⟨od, h⟩, rfl, e.symm⟩, q⟩
theorem tk_frz (h : H d = some (.dK kvs)) : TK K H (.ref d) "dict" := tk_dK h
end
section
variable {β : Type} {a : Addr} {od : Obj} {kvs : List (Key × V)} {g : TG} {tt : TT} {te : TE} {vs : List Nat} {σ : L2.St} {H1 : Hp} {D : Addr} {Qd : Hp → Prop}
theorem lc_keys (R : Hp → V → β → Prop) (ys : List (Option β)) (hD : H1 D = none) (ha : H1 a = some (.frz od (.dK kvs))) (hl : kvs.length = ys.length) (hz : ys.length < sizeLine) (mono : ∀ H H' v b, Same H H' → R H v b → R H' v b)
    (hs : ∀ (i : Nat) (k : Key) (v : V) (o : Option β) (H : Hp), kvs[i]? = some (k, v) → ys[i]? = some o → Same H1 H → (∃ acc, H D = some (.lst acc)) → Turn g tt te vs σ R D H (kV k) o)
    (hd : ∀ H acc, Same H1 H → H D = some (.lst acc) → Paired (R H) acc (ys.filterMap id) → Qd H) :
    ∃ W : Nat → Nat → Hp → Prop, (∃ m, W 0 m (upd H1 D (.lst []))) ∧ ∀ i m H, W i m H →
      ((Itk a od kvs).stop i H ∧ Qd H) ∨ ((Itk a od kvs).go i H ∧ ∃ Nx : Hp → Prop, (∀ H', Nx H' → ∃ m', m' < m ∧ W (i + 1) m' H') ∧ ∀ x H', (Itk a od kvs).yld i H x H' → g x (wipe σ vs) H' fun σ2 H2 => wipe σ2 vs = wipe σ vs ∧ tt σ2 H2 fun b H3 =>
        if b = true then te σ2 H3 fun y H4 => ∃ acc, H4 D = some (.lst acc) ∧ acc.length < sizeLine ∧ Nx (upd H4 D (.lst (acc ++ [y]))) else Nx H3) := by
  refine ⟨fun i m H => m = ys.length - i ∧ i ≤ ys.length ∧ Acc R H1 D ys i H, ⟨ys.length, by simp, Nat.zero_le _, acc_zero hD⟩, ?_⟩
  rintro i m H ⟨rfl, hi, p⟩
  have q := CP.Same.to p.1 ha
  by_cases lt : i < ys.length
  · refine .inr ⟨⟨q, by omega⟩, Acc R H1 D ys (i + 1), fun H' p' => ⟨ys.length - (i + 1), by omega, rfl, lt, p'⟩, fun x H' y => ?_⟩
    obtain ⟨rfl, k, v, hk, rfl⟩ := y
    exact turn_of mono hD hz p (List.getElem?_eq_getElem lt) (hs i k v _ _ hk (List.getElem?_eq_getElem lt) p.1 (p.2.imp fun _ z => z.1))
  · have e : i = ys.length := by omega
    subst e
    obtain ⟨s, acc, e, pr⟩ := acc_end mono p
    exact .inl ⟨⟨q, by omega⟩, hd H acc s e pr⟩
theorem lc_keysN (hD : H1 D = none) (ha : H1 a = some (.frz od (.dK kvs))) (hz : kvs.length < sizeLine)
    (hs : ∀ (i : Nat) (k : Key) (v : V) (H : Hp), kvs[i]? = some (k, v) → Same H1 H → Turn (β := V) g tt te vs σ (fun _ x b => x = b) D H (kV k) none) (hd : ∀ H, Same H1 H → H D = some (.lst []) → Qd H) :
    ∃ W : Nat → Nat → Hp → Prop, (∃ m, W 0 m (upd H1 D (.lst []))) ∧ ∀ i m H, W i m H →
      ((Itk a od kvs).stop i H ∧ Qd H) ∨ ((Itk a od kvs).go i H ∧ ∃ Nx : Hp → Prop, (∀ H', Nx H' → ∃ m', m' < m ∧ W (i + 1) m' H') ∧ ∀ x H', (Itk a od kvs).yld i H x H' → g x (wipe σ vs) H' fun σ2 H2 => wipe σ2 vs = wipe σ vs ∧ tt σ2 H2 fun b H3 =>
        if b = true then te σ2 H3 fun y H4 => ∃ acc, H4 D = some (.lst acc) ∧ acc.length < sizeLine ∧ Nx (upd H4 D (.lst (acc ++ [y]))) else Nx H3) := by
  refine lc_keys (β := V) (fun _ x b => x = b) (kvs.map fun _ => none) hD ha (by rw [List.length_map]) (by rw [List.length_map]; exact hz) (fun _ _ _ _ _ z => z) (fun i k v o H hk ho s1 _ => ?_) fun H acc s1 hacc pp => ?_
  · have e : o = none := by
      rw [List.getElem?_map, hk] at ho
      exact (Option.some.inj ho).symm
    subst e
    exact hs i k v H hk s1
  · have e : acc = [] := by
      rw [pd_eq pp]
      clear pp hs hz ha
      induction kvs with
      | nil => rfl
      | cons _ xs ih => exact ih
    subst e
    exact hd H s1 hacc
end
section
variable {K : PySem.W.Frag} {σ : L2.St} {H : Hp} {Q : VK} {te : TE} {a : Addr} {xs : List V}
theorem r_revL (q : te σ H fun x H1 => ∃ a xs, x = .ref a ∧ SqL K H1 a xs ∧ ∀ p, H1 p = none → Q (.ref p) (upd H1 p (.lst xs.reverse))) : tRevL K te σ H Q := q
theorem r_rev (h : SqL K H a xs) (q : ∀ p H', H p = none → Same H H' → H' p = some (.lst xs.reverse) → Q (.ref p) H') : ∃ b ys, V.ref a = .ref b ∧ SqL K H b ys ∧ ∀ p, H p = none → Q (.ref p) (upd H p (.lst ys.reverse)) :=
  ⟨a, xs, rfl, h, fun p hp => q p _ hp (same_new hp) upd_same⟩
end
theorem getD_mem : ∀ {l : List (Str × Int)} {p : Str × Int}, (l.map (·.1)).Nodup → p ∈ l → getD l p.1 = some p.2
  | a :: l, p, nd, h => by
    unfold getD
    rcases List.mem_cons.mp h with e | h
    · subst e; rw [if_pos rfl]
    · have ne : a.1 ≠ p.1 := fun e => (List.pairwise_cons.mp nd).1 p.1 (List.mem_map.mpr ⟨p, h, rfl⟩) e
      rw [if_neg ne]
      exact getD_mem (List.pairwise_cons.mp nd).2 h
theorem dV_get {l : List (Str × Int)} {i : Nat} {k : Key} {v : V} (h : (dV l)[i]? = some (k, v)) : ∃ p, p ∈ l ∧ k = Sum.inr p.1 ∧ v = .int p.2 := by
  unfold dV at h
  rw [List.getElem?_map] at h
  cases e : l[i]? with
  | none => rw [e] at h; cases h
  | some p =>
    rw [e] at h
    cases h
    exact ⟨p, List.mem_of_getElem? e, rfl, rfl⟩
theorem setD_nd {l : List (Str × Int)} {k : Str} {n : Int} (nd : (l.map (·.1)).Nodup) : ((setD l k n).map (·.1)).Nodup := by
  by_cases h : k ∈ l.map (·.1)
  · rw [setD_keys h]; exact nd
  · rw [setD_new h, List.map_append, List.nodup_append]
    exact ⟨nd, by simp, fun a ha b hb e => h (by have eb : b = k := List.mem_singleton.mp hb; rw [← eb, ← e]; exact ha)⟩
end CP

set_option Elab.async false
set_option linter.all false
set_option maxRecDepth 100000
set_option maxHeartbeats 4000000
set_option autoImplicit false
/-! heaps in which one object or two may change; what the law draws -/
namespace CP
open L2 PySem PyProof.Rows
theorem SB.free' {p c : Addr} {H H' : Hp} {o : HO} (s : SB p H H') (hp : H' p = some o) (h : H' c = none) : H c = none := by
  cases e : H c with
  | none => rfl
  | some u =>
    have ne : c ≠ p := fun z => by rw [z, hp] at h; cases h
    rw [s c u ne e] at h
    cases h
theorem Same.sb' {p : Addr} {H H' : Hp} (s : Same H H') : SB p H H' := fun b o _ e => s b o e
theorem SB.trans' {p : Addr} {H H1 H2 : Hp} (s : SB p H H1) (t : SB p H1 H2) : SB p H H2 := fun b o ne e => t b o ne (s b o ne e)
/-- new at q, then changed at q -/
theorem SB.fresh {p q : Addr} {H H1 H2 : Hp} (s : SB p H H1) (hq : H q = none) (t : SB q H1 H2) : SB p H H2 := fun b o ne e => t b o (fun z => by rw [z, hq] at e; cases e) (s b o ne e)
/-- the heap without two objects -/
def hid2 (p q : Addr) (H : Hp) : Hp := fun b => if b = p ∨ b = q then none else H b
theorem hid2_at {p q b : Addr} {H : Hp} {o : HO} (h : H b = some o) (n1 : b ≠ p) (n2 : b ≠ q) : hid2 p q H b = some o := by
  unfold hid2
  rw [if_neg (fun z => z.elim n1 n2)]
  exact h
theorem hid2_same {p q : Addr} {H : Hp} : Same (hid2 p q H) H := fun b o h => by
  unfold hid2 at h
  split at h
  · cases h
  · exact h
theorem hid2_p {p q : Addr} {H H' : Hp} (s : SB p H H') : Same (hid2 p q H) (hid2 p q H') := fun b o h => by
  unfold hid2 at h ⊢
  split at h
  · cases h
  · rename_i n
    rw [if_neg n]
    exact s b o (fun z => n (.inl z)) h
theorem hid2_q {p q : Addr} {H H' : Hp} (s : SB q H H') : Same (hid2 p q H) (hid2 p q H') := fun b o h => by
  unfold hid2 at h ⊢
  split at h
  · cases h
  · rename_i n
    rw [if_neg n]
    exact s b o (fun z => n (.inr z)) h
theorem hid2_s {p q : Addr} {H H' : Hp} (s : Same H H') : Same (hid2 p q H) (hid2 p q H') := hid2_p (Same.sb' s)
/-- the letters that the law uses for sizes, for names -/
def sizeW : List Str := ["m", "n", "n", "mn", "p", "abc", "height", "nm"]
def nameW : List Str := ["r", "c", "z", "kk", "a", "page", "columnes", "abcdefghij"]
theorem sizeW_let : ∀ x ∈ sizeW, letB x = true := by decide +kernel
theorem nameW_let : ∀ x ∈ nameW, letB x = true := by decide +kernel
theorem nameW_nd : nameW.Nodup := by decide +kernel
theorem sizeW_out : ∀ x ∈ sizeW, x ∉ nameW := by decide +kernel
theorem ins_perm {α : Type} (l : List α) (i : Nat) (x : α) : (l.take i ++ [x] ++ l.drop i).Perm (x :: l) := by
  have h : (l.take i ++ [x] ++ l.drop i).Perm (x :: (l.take i ++ l.drop i)) := by
    rw [List.append_assoc]
    exact List.perm_middle
  rw [List.take_append_drop] at h
  exact h
/-- a list of values whose items are texts -/
theorem strs_of_perm {l : List Str} {ys : List V} (h : ys.Perm (strL l)) : ∃ m, ys = strL m ∧ m.Perm l := by
  have all : ∀ y ∈ ys, ∃ z, y = V.str z := fun y hy => by
    obtain ⟨z, _, rfl⟩ := List.mem_map.mp (h.mem_iff.mp hy)
    exact ⟨z, rfl⟩
  let f : V → Str := fun v => match v with | .str z => z | _ => Str.empty
  have e1 : ys = strL (ys.map f) := by
    clear h
    induction ys with
    | nil => rfl
    | cons y ys ih =>
      obtain ⟨z, rfl⟩ := all y (List.mem_cons_self ..)
      have := ih fun x hx => all x (List.mem_cons_of_mem _ hx)
      show _ :: _ = _ :: strL _
      rw [← this]
  refine ⟨ys.map f, e1, ?_⟩
  have e2 : (strL l).map f = l := by
    unfold strL
    rw [List.map_map]
    exact List.map_id l
  have := h.map f
  rwa [e2] at this
theorem cut_strs (l : List Str) (n : Nat) : cutV (strL l) none (some (n : Int)) = strL (l.take n) := by
  unfold cutV
  rw [HT.sIx_none, HT.sIx_nat, List.drop_zero, Nat.sub_zero, strL_len]
  unfold strL
  rw [← List.map_take]
  congr 1
  by_cases h : n ≤ l.length
  · rw [Nat.min_eq_left h]
  · rw [Nat.min_eq_right (by omega), List.take_length, List.take_of_length_le (by omega)]
theorem cut_tail (xs : List V) (n : Nat) : cutV xs (some (n : Int)) none = xs.drop n := by
  unfold cutV
  rw [HT.sIx_none, HT.sIx_nat]
  by_cases h : n ≤ xs.length
  · rw [Nat.min_eq_left h, List.take_of_length_le (by rw [List.length_drop]; omega)]
  · rw [Nat.min_eq_right (by omega), List.drop_length, List.drop_of_length_le (by omega), List.take_nil]
theorem getItem_size : ∀ x ∈ ([.int 2, .int 2, .int 3] : List V), x = .int 2 ∨ x = .int 3 := by
  intro x hx
  simp only [List.mem_cons, List.not_mem_nil, or_false] at hx
  rcases hx with h | h | h
  · exact .inl h
  · exact .inl h
  · exact .inr h
/-- rows as the law draws them -/
structure Drawn (rows : List Sd) : Prop where
  name : ∀ r ∈ rows, r.1 ∈ nameW
  size : ∀ r ∈ rows, (∀ w ∈ r.2.1, w ∈ sizeW) ∧ r.2.1.length ≤ 3
  step : ∀ r ∈ rows, (∀ w ∈ r.2.2, w ∈ sizeW) ∧ r.2.2.length ≤ 6
theorem Drawn.rows {rows : List Sd} (h : Drawn rows) (ne : rows ≠ []) (nd : (rows.map (·.1)).Nodup) (few : rows.length ≤ 20) : Rows rows := by
  refine ⟨ne, few, fun r hr => nameW_let _ (h.name r hr), fun r hr => ⟨fun x hx => sizeW_let x ((h.size r hr).1 x hx), by have := (h.size r hr).2; omega⟩, fun r hr => ⟨fun x hx => sizeW_let x ((h.step r hr).1 x hx), by have := (h.step r hr).2; omega⟩, nd, fun r hr x hx m => ?_⟩
  obtain ⟨r2, h2, e⟩ := List.mem_map.mp m
  have xs : x ∈ sizeW := by
    rcases List.mem_append.mp hx with z | z
    · exact (h.size r hr).1 x z
    · exact (h.step r hr).1 x z
  exact sizeW_out x xs (by rw [← e]; exact h.name r2 h2)
/-- all but two stand -/
def SB2 (p q : Addr) (H H' : Hp) : Prop := ∀ b o, b ≠ p → b ≠ q → H b = some o → H' b = some o
theorem SB2.refl {p q : Addr} {H : Hp} : SB2 p q H H := fun _ _ _ _ e => e
theorem SB2.p {p q : Addr} {H H1 H2 : Hp} (s : SB2 p q H H1) (t : SB p H1 H2) : SB2 p q H H2 := fun b o n1 n2 e => t b o n1 (s b o n1 n2 e)
theorem SB2.q {p q : Addr} {H H1 H2 : Hp} (s : SB2 p q H H1) (t : SB q H1 H2) : SB2 p q H H2 := fun b o n1 n2 e => t b o n2 (s b o n1 n2 e)
theorem SideAt.at2 {p c : Addr} {H : Hp} {t a b : Addr} {r : Sd} (h1 : H t = some (.tup [.str r.1, .ref a, .ref b])) (h2 : H a = some (.lst (strL r.2.1))) (h3 : H b = some (.lst (strL r.2.2)))
    (n1 : t ≠ p) (n2 : t ≠ c) (n3 : a ≠ p) (n4 : a ≠ c) (n5 : b ≠ p) (n6 : b ≠ c) : SideAt (hid2 p c H) (.ref t) r := ⟨t, a, b, rfl, hid2_at h1 n1 n2, hid2_at h2 n3 n4, hid2_at h3 n5 n6⟩
theorem Drawn.add {rows : List Sd} (h : Drawn rows) {w : Str} {l m : List Str} (hw : w ∈ nameW) (hl : ∀ x ∈ l, x ∈ sizeW) (ll : l.length ≤ 3) (hm : ∀ x ∈ m, x ∈ sizeW) (ml : m.length ≤ 6) : Drawn (rows ++ [(w, l, m)]) := by
  have all : ∀ r ∈ rows ++ [(w, l, m)], r ∈ rows ∨ r = (w, l, m) := fun r hr => (List.mem_append.mp hr).imp id List.mem_singleton.mp
  refine ⟨fun r hr => ?_, fun r hr => ?_, fun r hr => ?_⟩
  · rcases all r hr with z | rfl
    · exact h.name r z
    · exact hw
  · rcases all r hr with z | rfl
    · exact h.size r z
    · exact ⟨hl, ll⟩
  · rcases all r hr with z | rfl
    · exact h.step r z
    · exact ⟨hm, ml⟩
theorem hid2_pp {p c : Addr} {H : Hp} : Same (hid2 p c H) (hid2 p p H) := fun b o h => by
  unfold hid2 at h ⊢
  split at h
  · cases h
  · rename_i n
    rw [if_neg (fun z => n (.inl (z.elim id id)))]
    exact h
section
variable {K : PySem.W.Frag} {a : Addr} {xs : List V} {g : TG} {tb : TS} {D : Ends} {σ : L2.St} {H : Hp} {ta : TA}
theorem r_iEnum {R : It → Hp → Prop} (q : ta σ H fun vs H1 => ∃ a xs, vs = [.ref a] ∧ SqL K H1 a xs ∧ R (Ite K a) H1) : iEnum K ta σ H R := q
theorem for_enum (Pv : Nat → L2.St → Hp → Prop) (start : Pv 0 σ H) (stay : ∀ i σ H, i ≤ xs.length → Pv i σ H → SqL K H a xs)
    (step : ∀ i x σ H T H', xs[i]? = some x → Pv i σ H → Same H H' → H' T = some (.tup [.int (i : Nat), x]) → g (.ref T) σ H' fun σ2 H2 => tb { D with nx := Pv (i + 1), ct := Pv (i + 1), bk := D.nx } σ2 H2) (fin : ∀ σ H, Pv xs.length σ H → D.nx σ H) :
    ∃ W : Nat → Nat → L2.St → Hp → Prop, (∃ m, W 0 m σ H) ∧ ∀ i m σ H, W i m σ H →
      ((Ite K a).stop i H ∧ D.nx σ H) ∨ ((Ite K a).go i H ∧ ∃ N : L2.St → Hp → Prop, (∀ σ' H', N σ' H' → ∃ m', m' < m ∧ W (i + 1) m' σ' H') ∧ ∀ x H', (Ite K a).yld i H x H' → g x σ H' fun σ2 H2 => tb { D with nx := N, ct := N, bk := D.nx } σ2 H2) := by
  refine ⟨fun i m σ H => m = xs.length - i ∧ i ≤ xs.length ∧ Pv i σ H, ⟨_, rfl, Nat.zero_le _, start⟩, fun i m σ H ⟨em, hi, p⟩ => ?_⟩
  subst em
  have q := stay i σ H hi p
  rcases Nat.lt_or_ge i xs.length with lt | ge
  · refine .inr ⟨⟨xs, xs[i], q, List.getElem?_eq_getElem lt⟩, Pv (i + 1), fun σ' H' p' => ⟨xs.length - (i + 1), by omega, rfl, lt, p'⟩, fun x H' y => ?_⟩
    obtain ⟨T, z, rfl, T0, rfl, hx⟩ := y
    exact step i z σ H T _ (hx xs q) p (same_new T0) upd_same
  · have e : i = xs.length := by omega
    subst e
    exact .inl ⟨⟨xs, q, (Nat.le_refl _ : xs.length ≤ xs.length)⟩, fin σ H p⟩
end
/-- the step of the one times its size divides the step of the other -/
def Fits (r s : Sd) : Prop := ∀ w, (r.2.1 ++ r.2.2).count w ≤ s.2.2.count w
def Comp (r s : Sd) : Prop := Fits r s ∨ Fits s r
theorem fits_ahead {r s : Sd} (h : Fits r s) : aheadB (srow r) (srow s) = true := by
  unfold aheadB
  obtain ⟨m, hm⟩ := restOf_some (o := (srow r).2.1 ++ (srow r).2.2) (l := (srow s).2.2) fun w => by
    show (srt r.2.1 ++ srt r.2.2).count w ≤ (srt s.2.2).count w
    have := h w
    rw [List.count_append, (srt_perm r.2.1).count_eq, (srt_perm r.2.2).count_eq, (srt_perm s.2.2).count_eq, ← List.count_append]
    exact this
  rw [hm]
  rfl
theorem ordGo_ok : ∀ {rs f : List Sd}, (∀ x ∈ f, ∀ r ∈ rs, r.2.1 ≠ [] → aheadB x r = true ∨ aheadB r x = true) → rs.Pairwise (fun r s => r.2.1 ≠ [] → s.2.1 ≠ [] → aheadB r s = true ∨ aheadB s r = true) → ∃ fs, ordGo f rs = .inl fs
  | [], f, _, _ => ⟨f, rfl⟩
  | r :: rs, f, h, p => by
    unfold ordGo
    obtain ⟨p1, p2⟩ := List.pairwise_cons.mp p
    by_cases e : r.2.1 = []
    · rw [if_pos e]
      exact ordGo_ok (fun x hx s hs => h x hx s (List.mem_cons_of_mem _ hs)) p2
    · rw [if_neg e]
      have fe : f.filter (fun f => !aheadB f r && !aheadB r f) = [] := List.filter_eq_nil_iff.mpr fun x hx z => by
        rcases h x hx r (List.mem_cons_self ..) e with k | k <;> rw [k] at z <;> simp at z
      rw [fe]
      refine ordGo_ok (fun x hx s hs ne => ?_) p2
      rcases List.mem_append.mp hx with hx | hx
      · rcases List.mem_append.mp hx with hx | hx
        · exact h x (List.mem_of_mem_take hx) s (List.mem_cons_of_mem _ hs) ne
        · rw [List.mem_singleton.mp hx]
          exact p1 s hs e ne
      · exact h x (List.mem_of_mem_drop hx) s (List.mem_cons_of_mem _ hs) ne
theorem order_ok {rows : List Sd} (h : (rows.filter fun r => decide (r.2.1 ≠ [])).Pairwise Comp) : ∃ fs, orderM (rows.map srow) = .inl fs := by
  refine ordGo_ok (by simp) ?_
  have : rows.Pairwise fun r s => r.2.1 ≠ [] → s.2.1 ≠ [] → Comp r s := by
    rw [List.pairwise_filter] at h
    exact h.imp fun {a b} k n1 n2 => k (decide_eq_true n1) (decide_eq_true n2)
  refine List.pairwise_map.mpr (this.imp fun {r s} k n1 n2 => ?_)
  have ne : ∀ {l : List Str}, srt l ≠ [] → l ≠ [] := fun z e => z (by rw [e]; exact List.eq_nil_of_length_eq_zero (srt_len []))
  rcases k (ne n1) (ne n2) with z | z
  · exact .inl (fits_ahead z)
  · exact .inr (fits_ahead z)
theorem r_makeK {C : Addr} {n m : Nat} {sp : Sp} {gV : List V → List V → List V} {E : XK} {t tk : TA} {σ : L2.St} {H : Hp} {Q : VK} (q : t σ H fun vs H1 => tk σ H1 fun zs H2 => vs.length = n ∧ zs.length = m ∧ ∀ x dx, H2 x = none → H2 dx = none → dx ≠ x →
  sp (gV (.ref x :: vs) zs) (upd (upd H2 dx (.own x)) x (.ins C dx [])) (fun v H3 => v = .non ∧ Q (.ref x) H3) E) : tMakeK C n m sp gV E t tk σ H Q := q
end CP
namespace CP
open L2 PySem PyProof.Rows
theorem OwnAt.mono {rows : List Sd} {v : V} {H H' : Hp} (h : OwnAt rows v H) (s : Same H H') : OwnAt rows v H' := by
  unfold OwnAt at *
  split at h
  · rename_i fs e
    obtain ⟨p, rfl, hp⟩ := h
    exact ⟨p, rfl, CP.Same.to s hp⟩
  · rename_i z e
    exact h
theorem ClashAt.mono {rows : List Sd} {v : V} {H H' : Hp} (h : ClashAt rows v H) (s : Same H H') : ClashAt rows v H' := by
  unfold ClashAt at *
  split at h
  · rename_i kv c1 c2 e
    obtain ⟨nd, t, d, x, y, rfl, h1, h2, h3, h4⟩ := h
    exact ⟨nd, t, d, x, y, rfl, CP.Same.to s h1, CP.Same.to s h2, CP.Same.to s h3, CP.Same.to s h4⟩
  · rename_i e
    exact h
theorem HoleAt.mono {rows fs : List Sd} {v : V} {H H' : Hp} (h : HoleAt rows fs v H) (s : Same H H') : HoleAt rows fs v H' := by
  unfold HoleAt at *
  split at h
  · rename_i kv n e
    obtain ⟨nd, t, d, rfl, h1, h2⟩ := h
    exact ⟨nd, t, d, rfl, CP.Same.to s h1, CP.Same.to s h2⟩
  · rename_i e
    exact h
theorem CellAt.mono {rows fs : List Sd} {f : Str → Int} {n : Int} {v : V} {H H' : Hp} (h : CellAt rows fs f n v H) (s : Same H H') : CellAt rows fs f n v H' := by
  unfold CellAt at *
  split at h
  · rename_i c e
    obtain ⟨p, rfl, h1⟩ := h
    exact ⟨p, rfl, CP.Same.to s h1⟩
  · rename_i e
    exact h
section
variable {K : PySem.W.Frag} {H : Hp} {Q : VK} {v v' : V} {rows fs : List Sd}
theorem non_ne (q : Q (.bl false) H) : rNeX K .non .non H Q := .inl (r_ne rfl (by rw [decide_eq_true rfl]; exact q))
theorem own_ne (hR : Rows rows) (h1 : OwnAt rows v H) (h2 : OwnAt rows v' H) (q : Q (.bl false) H) : rNeX K v v' H Q := by
  unfold OwnAt at *
  split at h1
  · rename_i fs e
    rw [e] at h2
    obtain ⟨p, rfl, hp⟩ := h1
    obtain ⟨p2, rfl, hp2⟩ := h2
    have lay : ∀ x ∈ fs.map (·.1), (PyData.str x).canLay0 = true := fun x hx => by
      obtain ⟨r, hr, rfl⟩ := List.mem_map.mp hx
      exact let_lay (hR.name r ((order_inl e).1 r hr))
    exact strs_neX (.of hp) (.of hp2) lay lay (by rw [decide_eq_true rfl]; exact q)
  · rename_i z e
    rw [e] at h2
    cases h1
    cases h2
    exact non_ne q
theorem dV_sq {n : Nat} {a b : Addr} {kv : List (Str × Int)} (nd : (kv.map (·.1)).Nodup) (h1 : H a = some (.dK (dV kv))) (h2 : H b = some (.dK (dV kv))) : SqV K H (n + 2) (.ref a) (.ref b) := by
  refine .inr (.inr (.inr (.inr ⟨a, b, _, _, rfl, rfl, h1, h2, rfl, fun p hp => ?_⟩)))
  unfold dV at hp
  obtain ⟨u, hu, rfl⟩ := List.mem_map.mp hp
  exact ⟨.int u.2, by show valV (dV kv) (Sum.inr u.1) = _; rw [dV_val, getD_mem nd hu]; rfl, .inl ⟨rfl, rfl⟩⟩
theorem ints_sq {n : Nat} {a b : Addr} {l : List Int} (h1 : H a = some (.lst (l.map V.int))) (h2 : H b = some (.lst (l.map V.int))) : SqV K H (n + 2) (.ref a) (.ref b) := by
  refine .inr (.inr (.inl ⟨a, b, _, _, rfl, rfl, .of h1, .of h2, ?_⟩))
  clear h1 h2
  induction l with
  | nil => exact .nil
  | cons x l ih => exact .cons (.inl ⟨rfl, rfl⟩) ih
theorem clash_ne (h1 : ClashAt rows v H) (h2 : ClashAt rows v' H) (q : Q (.bl false) H) : rNeX K v v' H Q := by
  unfold ClashAt at *
  cases e : clashM rows with
  | none =>
    rw [e] at h1 h2
    cases h1
    cases h2
    exact non_ne q
  | some z =>
    obtain ⟨kv, c1, c2⟩ := z
    rw [e] at h1 h2
    obtain ⟨nd, t, d, x, y, rfl, a1, a2, a3, a4⟩ := h1
    obtain ⟨_, t2, d2, x2, y2, rfl, b1, b2, b3, b4⟩ := h2
    exact .inr (.inr ⟨3, t, t2, _, _, by decide, rfl, rfl, .inr ⟨.of a1, .of b1⟩, .cons (dV_sq nd a2 b2) (.cons (ints_sq a3 b3) (.cons (ints_sq a4 b4) .nil)), q⟩)
theorem hole_ne (h1 : HoleAt rows fs v H) (h2 : HoleAt rows fs v' H) (q : Q (.bl false) H) : rNeX K v v' H Q := by
  unfold HoleAt at *
  cases e : holeM (sizesM rows) fs with
  | none =>
    rw [e] at h1 h2
    cases h1
    cases h2
    exact non_ne q
  | some z =>
    obtain ⟨kv, n⟩ := z
    rw [e] at h1 h2
    obtain ⟨nd, t, d, rfl, a1, a2⟩ := h1
    obtain ⟨_, t2, d2, rfl, b1, b2⟩ := h2
    exact .inr (.inr ⟨3, t, t2, _, _, by decide, rfl, rfl, .inr ⟨.of a1, .of b1⟩, .cons (dV_sq nd a2 b2) (.cons (.inl ⟨rfl, rfl⟩) .nil), q⟩)
theorem cell_ne {f : Str → Int} {n : Int} (h1 : CellAt rows fs f n v H) (h2 : CellAt rows fs f n v' H) (q : Q (.bl false) H) : rNeX K v v' H Q := by
  unfold CellAt at *
  cases e : foundM rows fs f n with
  | none =>
    rw [e] at h1 h2
    cases h1
    cases h2
    exact non_ne q
  | some c =>
    rw [e] at h1 h2
    obtain ⟨p, rfl, a1⟩ := h1
    obtain ⟨p2, rfl, b1⟩ := h2
    refine .inr (.inr ⟨3, p, p2, _, _, by decide, rfl, rfl, .inl ⟨.of a1, .of b1⟩, ?_, q⟩)
    clear a1 b1 e
    induction c with
    | nil => exact .nil
    | cons x l ih => exact .cons (.inl ⟨rfl, rfl⟩) ih
end
end CP

set_option Elab.async false
set_option linter.all false
set_option maxRecDepth 100000
set_option maxHeartbeats 4000000
set_option autoImplicit false
/-! sides that stand in an order: their cells have places of their own -/
namespace CP
open L2 PySem PyProof.Rows
theorem fits_of_ahead {r s : Sd} (h : aheadB r s = true) : Fits r s := by
  unfold aheadB at h
  obtain ⟨m, hm⟩ := Option.isSome_iff_exists.mp h
  intro w
  have := restOf_count hm w
  omega
theorem ahead_of_fits {r s : Sd} (h : Fits r s) : aheadB r s = true := by
  unfold aheadB
  obtain ⟨m, hm⟩ := restOf_some (o := r.2.1 ++ r.2.2) (l := s.2.2) h
  rw [hm]
  rfl
theorem ahead_iff {r s : Sd} : aheadB r s = true ↔ Fits r s := ⟨fits_of_ahead, ahead_of_fits⟩
theorem Fits.trans {r s u : Sd} (h : Fits r s) (k : Fits s u) : Fits r u := fun w => by
  have h1 := h w
  have h2 := k w
  rw [List.count_append] at h1 h2 ⊢
  omega
theorem Fits.ne {r : Sd} (ne : r.2.1 ≠ []) : ¬ Fits r r := fun h => by
  obtain ⟨x, l, e⟩ := List.exists_cons_of_ne_nil ne
  have := h x
  rw [List.count_append, e, List.count_cons_self] at this
  omega
theorem fits_srow {r s : Sd} : Fits (srow r) (srow s) ↔ Fits r s := by
  have e : ∀ w, ((srow r).2.1 ++ (srow r).2.2).count w = (r.2.1 ++ r.2.2).count w := fun w => by
    show (srt r.2.1 ++ srt r.2.2).count w = _
    rw [List.count_append, (srt_perm r.2.1).count_eq, (srt_perm r.2.2).count_eq, ← List.count_append]
  have e2 : ∀ w, (srow s).2.2.count w = s.2.2.count w := fun w => (srt_perm s.2.2).count_eq w
  constructor
  · intro h w
    have := h w
    rw [e, e2] at this
    exact this
  · intro h w
    rw [e, e2]
    exact h w
theorem filter_take {α : Type} (p : α → Bool) : ∀ {l : List α}, l.Pairwise (fun a b => p b = true → p a = true) → l.take (l.filter p).length = l.filter p ∧ ∀ x ∈ l.drop (l.filter p).length, p x = false
  | [], _ => by simp
  | a :: l, h => by
    obtain ⟨h1, h2⟩ := List.pairwise_cons.mp h
    cases e : p a with
    | true =>
      rw [List.filter_cons_of_pos e, List.length_cons, List.take_succ_cons, List.drop_succ_cons]
      obtain ⟨i1, i2⟩ := filter_take p h2
      exact ⟨by rw [i1], i2⟩
    | false =>
      have n : (a :: l).filter p = [] := List.filter_eq_nil_iff.mpr fun x hx z => by
        rcases List.mem_cons.mp hx with rfl | hx
        · rw [e] at z; cases z
        · have := h1 x hx z
          rw [e] at this
          cases this
      rw [n]
      refine ⟨rfl, fun x hx => ?_⟩
      have := List.filter_eq_nil_iff.mp n x hx
      cases k : p x with
      | true => exact absurd k this
      | false => rfl
abbrev full1 (r : Sd) : Bool := decide (r.2.1 ≠ [])
theorem full_t {r : Sd} (e : r.2.1 ≠ []) : full1 r = true := decide_eq_true e
theorem ordGo_chain : ∀ {rs f fs : List Sd}, f.Pairwise Fits → ordGo f rs = .inl fs → fs.Pairwise Fits ∧ fs.Perm (f ++ rs.filter full1)
  | [], f, fs, p, h => by
    cases h
    exact ⟨p, by rw [List.filter_nil, List.append_nil]⟩
  | r :: rs, f, fs, p, h => by
    unfold ordGo at h
    by_cases e : r.2.1 = []
    · rw [if_pos e] at h
      rw [List.filter_cons_of_neg (by simp [full1, e])]
      exact ordGo_chain p h
    · rw [if_neg e] at h
      rw [List.filter_cons_of_pos (full_t e)]
      split at h
      · cases h
      · rename_i fe
        have cmp : ∀ x ∈ f, Fits x r ∨ Fits r x := fun x hx => by
          have := List.filter_eq_nil_iff.mp fe x hx
          by_cases a : aheadB x r = true
          · exact .inl (fits_of_ahead a)
          · by_cases b : aheadB r x = true
            · exact .inr (fits_of_ahead b)
            · rw [Bool.not_eq_true] at a b
              rw [a, b] at this
              exact absurd rfl this
        obtain ⟨t1, t2⟩ := filter_take (fun x => aheadB x r) (p.imp fun {a b} k z => ahead_of_fits (k.trans (fits_of_ahead z)))
        generalize (f.filter fun x => aheadB x r).length = k at t1 t2 h
        have p' : (f.take k ++ [r] ++ f.drop k).Pairwise Fits := by
          have pf := p
          rw [← List.take_append_drop k f] at pf
          obtain ⟨q1, q2, q3⟩ := List.pairwise_append.mp pf
          have u1 : ∀ x ∈ f.take k, Fits x r := fun x hx => by
            rw [t1] at hx
            exact fits_of_ahead (List.mem_filter.mp hx).2
          have u2 : ∀ x ∈ f.drop k, Fits r x := fun x hx => (cmp x (List.mem_of_mem_drop hx)).resolve_left fun z => by
            have := t2 x hx
            rw [ahead_of_fits z] at this
            cases this
          refine List.pairwise_append.mpr ⟨List.pairwise_append.mpr ⟨q1, List.pairwise_singleton _ _, fun x hx y hy => by rw [List.mem_singleton.mp hy]; exact u1 x hx⟩, q2, fun x hx y hy => ?_⟩
          rcases List.mem_append.mp hx with hx | hx
          · exact q3 x hx y hy
          · rw [List.mem_singleton.mp hx]
            exact u2 y hy
        obtain ⟨i1, i2⟩ := ordGo_chain p' h
        refine ⟨i1, i2.trans ?_⟩
        have := (ins_perm f k r).append_right (rs.filter full1)
        refine this.trans ?_
        rw [List.cons_append]
        exact List.perm_middle.symm
theorem order_chain {rows fs : List Sd} (h : orderM rows = .inl fs) : fs.Pairwise Fits ∧ fs.Perm (rows.filter full1) := ordGo_chain List.Pairwise.nil h
/-! values -/
theorem prodF_append {f : Str → Int} (l m : List Str) : prodF f (l ++ m) = prodF f l * prodF f m := by
  induction l with
  | nil => show prodF f m = 1 * _; rw [Int.one_mul]
  | cons x l ih => rw [List.cons_append, prodF_cons, prodF_cons, ih, Int.mul_assoc]
theorem prodF_perm {f : Str → Int} {l m : List Str} (p : l.Perm m) : prodF f l = prodF f m := by
  induction p with
  | nil => rfl
  | cons x _ ih => rw [prodF_cons, prodF_cons, ih]
  | swap x y l => rw [prodF_cons, prodF_cons, prodF_cons, prodF_cons, ← Int.mul_assoc, Int.mul_comm (f y), Int.mul_assoc]
  | trans _ _ i1 i2 => exact i1.trans i2
theorem prodF_one {f : Str → Int} : ∀ {l : List Str}, (∀ k ∈ l, 1 ≤ f k) → 1 ≤ prodF f l
  | [], _ => Int.le_refl 1
  | k :: l, h => by
    have a := h k (List.mem_cons_self ..)
    have b := prodF_one (l := l) fun x hx => h x (List.mem_cons_of_mem _ hx)
    have := Int.mul_le_mul a b (by decide) (by omega)
    rw [prodF_cons]
    omega
theorem fits_val {f : Str → Int} {r s : Sd} (h : Fits r s) (hs : ∀ k ∈ s.2.2, 1 ≤ f k) (hr : ∀ k ∈ r.2.1 ++ r.2.2, 1 ≤ f k) : prodF f r.2.1 * prodF f r.2.2 ≤ prodF f s.2.2 := by
  obtain ⟨m, hm⟩ := restOf_some (o := r.2.1 ++ r.2.2) (l := s.2.2) h
  have p : s.2.2.Perm (r.2.1 ++ r.2.2 ++ m) := List.perm_iff_count.mpr fun w => by
    rw [restOf_count hm w, List.count_append, List.count_append, List.count_append]; omega
  rw [prodF_perm p, prodF_append, prodF_append]
  have a := prodF_one (l := m) fun k hk => hs k (p.mem_iff.mpr (List.mem_append_right _ hk))
  have b : 1 ≤ prodF f r.2.1 * prodF f r.2.2 := by rw [← prodF_append]; exact prodF_one hr
  have := Int.mul_le_mul_of_nonneg_left a (by omega : 0 ≤ prodF f r.2.1 * prodF f r.2.2)
  rwa [Int.mul_one] at this
/-- a cell's place -/
def spotF (f : Str → Int) (c : Sd → Int) (rows : List Sd) : Int := Gr.spot (fun r => prodF f r.2.2) c rows
theorem spotF_filter {f : Str → Int} {c : Sd → Int} : ∀ {rows : List Sd}, (∀ r ∈ rows, r.2.1 = [] → c r = 0) → spotF f c rows = spotF f c (rows.filter full1)
  | [], _ => rfl
  | r :: rows, h => by
    have i := spotF_filter (f := f) (c := c) (rows := rows) fun x hx => h x (List.mem_cons_of_mem _ hx)
    unfold spotF at i ⊢
    by_cases e : r.2.1 = []
    · rw [List.filter_cons_of_neg (by simp [full1, e]), Gr.spot_cons, h r (List.mem_cons_self ..) e, Int.zero_mul, Int.zero_add, i]
    · rw [List.filter_cons_of_pos (full_t e), Gr.spot_cons, Gr.spot_cons, i]
theorem chain_good {f : Str → Int} {fs : List Sd} (p : fs.Pairwise Fits) (hf : ∀ r ∈ fs, ∀ k ∈ r.2.1 ++ r.2.2, 1 ≤ f k) : Gr.Good (fun r : Sd => prodF f r.2.2) (fun r => prodF f r.2.1) fs.reverse := by
  refine Gr.good_pair (fun r hr => ?_) ?_
  · have h := hf r (List.mem_reverse.mp hr)
    exact ⟨prodF_one fun k hk => h k (List.mem_append_right _ hk), prodF_one fun k hk => h k (List.mem_append_left _ hk)⟩
  · rw [List.pairwise_reverse]
    refine p.imp_of_mem fun {a b} ha hb k => ?_
    exact fits_val k (fun x hx => hf b hb x (List.mem_append_right _ hx)) (hf a ha)
theorem idx_get {α : Type} [BEq α] [LawfulBEq α] : ∀ {l : List α} {i : Nat}, l.Nodup → (h : i < l.length) → l.idxOf l[i] = i
  | a :: l, 0, _, _ => by rw [List.getElem_cons_zero, List.idxOf_cons_self]
  | a :: l, i + 1, nd, h => by
    obtain ⟨n1, n2⟩ := List.pairwise_cons.mp nd
    rw [List.length_cons] at h
    have ne : (a == l[i]'(by omega)) = false := beq_eq_false_iff_ne.mpr (n1 _ (List.getElem_mem (by omega)))
    rw [List.getElem_cons_succ, List.idxOf_cons, ne, idx_get n2 (by omega)]
    rfl
/-- a list's items as a function of the sides -/
def cf (rows : List Sd) (cell : List Int) : Sd → Int := fun r => (cell[rows.idxOf r]?).getD 0
theorem cf_map {rows : List Sd} {cell : List Int} (nd : rows.Nodup) (hl : cell.length = rows.length) : rows.map (cf rows cell) = cell := by
  refine List.ext_getElem (by rw [List.length_map, hl]) fun i h1 h2 => ?_
  rw [List.getElem_map]
  unfold cf
  rw [List.length_map] at h1
  have e : rows.idxOf rows[i] = i := idx_get nd h1
  rw [e, List.getElem?_eq_getElem h2]
  rfl
theorem Rows.nd {rows : List Sd} (h : Rows rows) : rows.Nodup := List.Pairwise.of_map (·.1) (fun _ _ n e => n (by rw [e])) h.dis
/-- a cell within its sizes -/
def Cell (f : Str → Int) (rows : List Sd) (cell : List Int) : Prop := cell.length = rows.length ∧ ∀ r ∈ rows, 0 ≤ cf rows cell r ∧ cf rows cell r < prodF f r.2.1
theorem cell_inj {f : Str → Int} {rows fs : List Sd} {c d : List Int} (hR : Rows rows) (p : fs.Pairwise Fits) (q : fs.Perm (rows.filter full1)) (hf : ∀ r ∈ rows, ∀ k ∈ r.2.1 ++ r.2.2, 1 ≤ f k)
    (hc : Cell f rows c) (hd : Cell f rows d) (e : spotF f (cf rows c) rows = spotF f (cf rows d) rows) : c = d := by
  have z : ∀ {x : List Int}, Cell f rows x → ∀ r ∈ rows, r.2.1 = [] → cf rows x r = 0 := fun hx r hr e => by
    have := hx.2 r hr
    rw [e] at this
    have k : prodF f [] = 1 := rfl
    rw [k] at this
    omega
  rw [spotF_filter (z hc), spotF_filter (z hd)] at e
  unfold spotF at e
  have pr : fs.reverse.Perm (rows.filter full1) := (List.reverse_perm fs).trans q
  rw [← Gr.spot_perm pr, ← Gr.spot_perm pr] at e
  have mem : ∀ r ∈ fs.reverse, r ∈ rows := fun r hr => (List.mem_filter.mp (pr.mem_iff.mp hr)).1
  have k := Gr.inj (chain_good p fun r hr => hf r (mem r (List.mem_reverse.mpr hr))) (fun r hr => hc.2 r (mem r hr)) (fun r hr => hd.2 r (mem r hr)) e
  rw [← cf_map hR.nd hc.1, ← cf_map hR.nd hd.1]
  refine List.map_congr_left fun r hr => ?_
  by_cases e : r.2.1 = []
  · rw [z hc r hr e, z hd r hr e]
  · exact k r (pr.mem_iff.mpr (List.mem_filter.mpr ⟨hr, decide_eq_true e⟩))
/-! full tables -/
def FullFrom : List Str → List Sd → Prop
  | _, [] => True
  | due, r :: fs => r.2.2.Perm due ∧ FullFrom (r.2.1 ++ r.2.2) fs
def prodZ (f : Str → Int) : List Sd → Int
  | [] => 1
  | r :: rows => prodF f r.2.1 * prodZ f rows
theorem prodZ_perm {f : Str → Int} {l m : List Sd} (p : l.Perm m) : prodZ f l = prodZ f m := by
  induction p with
  | nil => rfl
  | cons x _ ih => unfold prodZ; rw [ih]
  | swap x y l => unfold prodZ; unfold prodZ; rw [← Int.mul_assoc, Int.mul_comm (prodF f y.2.1), Int.mul_assoc]
  | trans _ _ i1 i2 => exact i1.trans i2
theorem prodZ_filter {f : Str → Int} : ∀ {rows : List Sd}, prodZ f rows = prodZ f (rows.filter full1)
  | [] => rfl
  | r :: rows => by
    have i := prodZ_filter (f := f) (rows := rows)
    by_cases e : r.2.1 = []
    · rw [List.filter_cons_of_neg (by simp [full1, e]), ← i]
      show prodF f r.2.1 * _ = _
      rw [e]
      show 1 * _ = _
      rw [Int.one_mul]
    · rw [List.filter_cons_of_pos (full_t e)]
      show _ * _ = _ * _
      rw [i]
theorem full_top {f : Str → Int} : ∀ {fs : List Sd} {due : List Str}, FullFrom due fs → Gr.topv (fun r : Sd => prodF f r.2.2) (fun r => prodF f r.2.1) fs = prodF f due * (prodZ f fs - 1)
  | [], due, _ => by
    show (0 : Int) = _ * (1 - 1)
    rw [Int.sub_self, Int.mul_zero]
  | r :: fs, due, h => by
    rw [Gr.top_cons, full_top h.2, prodF_append, prodF_perm h.1]
    show _ = prodF f due * (prodF f r.2.1 * prodZ f fs - 1)
    simp only [Int.sub_mul, Int.mul_sub, Int.mul_one, Int.one_mul]
    rw [Int.mul_comm (prodF f r.2.1) (prodF f due), Int.mul_assoc]
    omega
theorem full_chain : ∀ {fs : List Sd} {due : List Str}, FullFrom due fs → fs.Pairwise Fits ∧ ∀ r ∈ fs, ∀ w, due.count w ≤ r.2.2.count w
  | [], _, _ => ⟨.nil, fun _ h => nomatch h⟩
  | r :: fs, due, h => by
    obtain ⟨i1, i2⟩ := full_chain h.2
    refine ⟨List.pairwise_cons.mpr ⟨fun s hs w => i2 s hs w, i1⟩, fun s hs w => ?_⟩
    rcases List.mem_cons.mp hs with rfl | hs
    · rw [h.1.count_eq]
      exact Nat.le_refl _
    · have := i2 s hs w
      rw [List.count_append, h.1.count_eq] at this
      omega
theorem full_lt {f : Str → Int} {rows fs : List Sd} {c : List Int} (u : FullFrom [] fs) (q : fs.Perm (rows.filter full1)) (hf : ∀ r ∈ rows, ∀ k ∈ r.2.1 ++ r.2.2, 1 ≤ f k) (hc : Cell f rows c) : 0 ≤ spotF f (cf rows c) rows ∧ spotF f (cf rows c) rows < prodZ f rows := by
  have z : ∀ r ∈ rows, r.2.1 = [] → cf rows c r = 0 := fun r hr e => by
    have := hc.2 r hr
    rw [e] at this
    have k : prodF f [] = 1 := rfl
    rw [k] at this
    omega
  rw [spotF_filter z]
  unfold spotF
  rw [← Gr.spot_perm q, prodZ_filter, ← prodZ_perm q]
  have mem : ∀ r ∈ fs, r ∈ rows := fun r hr => (List.mem_filter.mp (q.mem_iff.mp hr)).1
  have p1 : ∀ r ∈ fs, 1 ≤ prodF f r.2.2 := fun r hr => prodF_one fun k hk => hf r (mem r hr) k (List.mem_append_right _ hk)
  have w : Gr.Within (fun r : Sd => prodF f r.2.1) (cf rows c) fs := fun r hr => hc.2 r (mem r hr)
  have a := Gr.spot_nonneg p1 w
  have b := Gr.spot_le p1 w
  have t := full_top (f := f) u
  have e1 : prodF f [] = 1 := rfl
  rw [e1, Int.one_mul] at t
  omega
end CP

set_option Elab.async false
set_option linter.all false
set_option maxRecDepth 100000
set_option maxHeartbeats 4000000
set_option autoImplicit false
/-! cells as lists, their places -/
namespace CP
open L2 PySem PyProof.Rows
def intL (l : List Int) : List V := l.map V.int
theorem intL_len (l : List Int) : (intL l).length = l.length := List.length_map _
theorem intL_get {l : List Int} {i : Nat} {x : V} (h : (intL l)[i]? = some x) : ∃ n, l[i]? = some n ∧ x = .int n := by
  unfold intL at h
  rw [List.getElem?_map] at h
  cases e : l[i]? with
  | none => rw [e] at h; cases h
  | some n => rw [e] at h; cases h; exact ⟨n, rfl, rfl⟩
theorem intL_app (l m : List Int) : intL (l ++ m) = intL l ++ intL m := List.map_append
def IntsAt (H : Hp) (v : V) (l : List Int) : Prop := ∃ a, v = .ref a ∧ H a = some (.lst (intL l))
theorem IntsAt.mono {H H' : Hp} {v : V} {l : List Int} (h : IntsAt H v l) (s : Same H H') : IntsAt H' v l := by
  obtain ⟨a, e, h1⟩ := h
  exact ⟨a, e, s _ _ h1⟩
def spotL (f : Str → Int) (rows : List Sd) (cell : List Int) : Int := ((rows.zip cell).map fun p => p.2 * prodF f p.1.2.2).sum
theorem spot_map {f : Str → Int} {c : Sd → Int} : ∀ rows : List Sd, spotL f rows (rows.map c) = spotF f c rows
  | [] => rfl
  | r :: rows => by
    have i := spot_map (f := f) (c := c) rows
    unfold spotL spotF at *
    rw [List.map_cons, List.zip_cons_cons, List.map_cons, List.sum_cons, i, Gr.spot_cons]
theorem spot_eq {f : Str → Int} {rows : List Sd} {cell : List Int} (nd : rows.Nodup) (hl : cell.length = rows.length) : spotL f rows cell = spotF f (cf rows cell) rows := by
  rw [← spot_map, cf_map nd hl]
section
variable {β : Type} {K : PySem.W.Frag} {a : Addr} {g : TG} {tt : TT} {te : TE} {vs : List Nat} {σ : L2.St} {H1 : Hp} {D : Addr} {Qd : Hp → Prop}
theorem lc_valsR {lo : Int} {n : Nat} (ys : List V) (hD : H1 D = none) (hl : n = ys.length) (hz : ys.length < sizeLine)
    (hs : ∀ (i : Nat) (y : V) (H : Hp), i < n → ys[i]? = some y → Same H1 H → Turn (β := V) g tt te vs σ (fun _ x b => x = b) D H (.int (lo + i)) (some y)) (hd : ∀ H, Same H1 H → H D = some (.lst ys) → Qd H) :
    ∃ W : Nat → Nat → Hp → Prop, (∃ m, W 0 m (upd H1 D (.lst []))) ∧ ∀ i m H, W i m H →
      ((Itr lo n).stop i H ∧ Qd H) ∨ ((Itr lo n).go i H ∧ ∃ Nx : Hp → Prop, (∀ H', Nx H' → ∃ m', m' < m ∧ W (i + 1) m' H') ∧ ∀ x H', (Itr lo n).yld i H x H' → g x (wipe σ vs) H' fun σ2 H2 => wipe σ2 vs = wipe σ vs ∧ tt σ2 H2 fun b H3 =>
        if b = true then te σ2 H3 fun y H4 => ∃ acc, H4 D = some (.lst acc) ∧ acc.length < sizeLine ∧ Nx (upd H4 D (.lst (acc ++ [y]))) else Nx H3) := by
  refine lc_tellR (β := V) (fun _ x b => x = b) (ys.map some) hD (by rw [List.length_map]; exact hl) (by rw [List.length_map]; exact hz) (fun _ _ _ _ _ z => z) (fun i o H hi ho s1 _ => ?_) fun H acc s1 hacc pp => ?_
  · rw [List.getElem?_map] at ho
    cases ey : ys[i]? with
    | none => rw [ey] at ho; cases ho
    | some y =>
      rw [ey] at ho
      cases ho
      exact hs i y H hi ey s1
  · have e : acc = ys := by
      rw [pd_eq pp, List.filterMap_map]
      exact List.filterMap_some
    subst e
    exact hd H s1 hacc
/-- over a range, each turn a list of ints -/
theorem lc_intsR {lo : Int} {n : Nat} (ls : List (List Int)) (hD : H1 D = none) (hl : n = ls.length) (hz : ls.length < sizeLine)
    (hs : ∀ (i : Nat) (l : List Int) (H : Hp), i < n → ls[i]? = some l → Same H1 H → (∃ acc, H D = some (.lst acc)) → Turn g tt te vs σ IntsAt D H (.int (lo + i)) (some l)) (hd : ∀ H acc, Same H1 H → H D = some (.lst acc) → Paired (IntsAt H) acc ls → Qd H) :
    ∃ W : Nat → Nat → Hp → Prop, (∃ m, W 0 m (upd H1 D (.lst []))) ∧ ∀ i m H, W i m H →
      ((Itr lo n).stop i H ∧ Qd H) ∨ ((Itr lo n).go i H ∧ ∃ Nx : Hp → Prop, (∀ H', Nx H' → ∃ m', m' < m ∧ W (i + 1) m' H') ∧ ∀ x H', (Itr lo n).yld i H x H' → g x (wipe σ vs) H' fun σ2 H2 => wipe σ2 vs = wipe σ vs ∧ tt σ2 H2 fun b H3 =>
        if b = true then te σ2 H3 fun y H4 => ∃ acc, H4 D = some (.lst acc) ∧ acc.length < sizeLine ∧ Nx (upd H4 D (.lst (acc ++ [y]))) else Nx H3) := by
  refine lc_tellR IntsAt (ls.map some) hD (by rw [List.length_map]; exact hl) (by rw [List.length_map]; exact hz) (fun _ _ _ _ s z => IntsAt.mono z s) (fun i o H hi ho s1 ha => ?_) fun H acc s1 hacc pp => ?_
  · rw [List.getElem?_map] at ho
    cases ey : ls[i]? with
    | none => rw [ey] at ho; cases ho
    | some y =>
      rw [ey] at ho
      cases ho
      exact hs i y H hi ey s1 ha
  · rw [List.filterMap_map, show ls.filterMap (id ∘ some) = ls from List.filterMap_some] at pp
    exact hd H acc s1 hacc pp
end
theorem ints_mono {H H' : Hp} {vs : List V} {ls : List (List Int)} (h : Paired (IntsAt H) vs ls) (s : Same H H') : Paired (IntsAt H') vs ls := pd_mono h fun _ _ z => IntsAt.mono z s
/-- the values of letters are small -/
def Small (kv : List (Str × Int)) (ks : List Str) : Prop := ∀ k ∈ ks, (getD kv k).isSome = true ∧ 1 ≤ atD kv k ∧ atD kv k ≤ 2 ^ 13
theorem prodF_le13 {f : Str → Int} : ∀ {l : List Str}, (∀ k ∈ l, 1 ≤ f k ∧ f k ≤ 2 ^ 13) → 1 ≤ prodF f l ∧ prodF f l ≤ 2 ^ (13 * l.length)
  | [], _ => ⟨Int.le_refl 1, Int.le_refl 1⟩
  | k :: l, h => by
    obtain ⟨a, b⟩ := h k (List.mem_cons_self ..)
    obtain ⟨c, d⟩ := prodF_le13 (l := l) fun x hx => h x (List.mem_cons_of_mem _ hx)
    rw [prodF_cons, List.length_cons, Nat.mul_add, Nat.mul_one, Int.pow_add, Int.mul_comm]
    refine ⟨?_, Int.mul_le_mul d b (by omega) (Int.le_of_lt (Int.pow_pos (by decide)))⟩
    have := Int.mul_le_mul c a (by decide) (by omega)
    rwa [Int.mul_one] at this
theorem Small.sub {kv : List (Str × Int)} {ks js : List Str} (h : Small kv ks) (s : ∀ k ∈ js, k ∈ ks) : Small kv js := fun k hk => h k (s k hk)
theorem Small.low {kv : List (Str × Int)} {l : List Str} (h : Small kv l) (n : l.length ≤ 30) : (∀ k ∈ l, valV (dV kv) (Sum.inr k) = some (.int (atD kv k)) ∧ 0 ≤ atD kv k ∧ atD kv k < 2 ^ 400) ∧ (∀ i, i ≤ l.length → prodF (atD kv) (l.take i) < 2 ^ 400) ∧ 1 ≤ prodF (atD kv) l ∧ prodF (atD kv) l ≤ 2 ^ (13 * l.length) ∧ prodF (atD kv) l < 2 ^ 400 := by
  have b : ∀ k ∈ l, 1 ≤ atD kv k ∧ atD kv k ≤ 2 ^ 13 := fun k hk => (h k hk).2
  refine ⟨fun k hk => ?_, fun i _ => ?_, (prodF_le13 b).1, (prodF_le13 b).2, Int.lt_of_le_of_lt (prodF_le13 b).2 (two_lt (by omega))⟩
  · obtain ⟨c1, c2, c3⟩ := h k hk
    refine ⟨?_, by omega, Int.lt_of_le_of_lt c3 (two_lt (a := 13) (b := 400) (by omega))⟩
    rw [dV_val]
    unfold atD
    cases e : getD kv k with
    | none => rw [e] at c1; cases c1
    | some n => rfl
  · have := (prodF_le13 (l := l.take i) fun k hk' => b k (List.mem_of_mem_take hk')).2
    refine Int.lt_of_le_of_lt this (two_lt ?_)
    rw [List.length_take]
    omega
def ltrs (rows : List Sd) : List Str := rows.flatMap fun r => r.2.1 ++ r.2.2
theorem ltrs_size {rows : List Sd} {r : Sd} (h : r ∈ rows) : ∀ k ∈ r.2.1, k ∈ ltrs rows := fun k hk => List.mem_flatMap.mpr ⟨r, h, List.mem_append_left _ hk⟩
theorem ltrs_step {rows : List Sd} {r : Sd} (h : r ∈ rows) : ∀ k ∈ r.2.2, k ∈ ltrs rows := fun k hk => List.mem_flatMap.mpr ⟨r, h, List.mem_append_right _ hk⟩
theorem mem_ltrs {rows : List Sd} {k : Str} : k ∈ sizesM rows ↔ k ∈ ltrs rows := mem_sset
theorem Small.f1 {kv : List (Str × Int)} {rows : List Sd} (h : Small kv (ltrs rows)) : ∀ r ∈ rows, ∀ k ∈ r.2.1 ++ r.2.2, 1 ≤ atD kv k := fun r hr k hk => (h k (List.mem_flatMap.mpr ⟨r, hr, hk⟩)).2.1
end CP
namespace CP
open L2 PySem PyProof.Rows
def fitsB (r s : Sd) : Bool := (r.2.1 ++ r.2.2).all fun w => decide ((r.2.1 ++ r.2.2).count w ≤ s.2.2.count w)
theorem fitsB_iff {r s : Sd} : fitsB r s = true ↔ Fits r s := by
  unfold fitsB
  rw [List.all_eq_true]
  constructor
  · intro h w
    by_cases m : w ∈ r.2.1 ++ r.2.2
    · exact of_decide_eq_true (h w m)
    · rw [List.count_eq_zero.mpr m]
      exact Nat.zero_le _
  · intro h w _
    exact decide_eq_true (h w)
theorem fitsB_of {b : Bool} {r s : Sd} (h : b = true ↔ ∀ w, (r.2.1 ++ r.2.2).count w ≤ s.2.2.count w) : b = fitsB r s := by
  cases e : fitsB r s with
  | true => exact h.mpr (fitsB_iff.mp e)
  | false =>
    cases b with
    | false => rfl
    | true =>
      have := fitsB_iff.mpr (h.mp rfl)
      rw [e] at this
      cases this
/-- as the law lays sides in their order -/
def lawOrd : List Sd → List Sd → List Sd
  | found, [] => found
  | found, r :: rs => if r.2.1 = [] then lawOrd found rs else lawOrd (found.take (found.filter fun u => fitsB u r).length ++ [r] ++ found.drop (found.filter fun u => fitsB u r).length) rs
theorem fitsB_srow {r s : Sd} : aheadB (srow r) (srow s) = fitsB r s := by
  cases e : fitsB r s with
  | true => exact ahead_of_fits (fits_srow.mpr (fitsB_iff.mp e))
  | false =>
    cases k : aheadB (srow r) (srow s) with
    | false => rfl
    | true =>
      have := fitsB_iff.mpr (fits_srow.mp (fits_of_ahead k))
      rw [e] at this
      cases this
theorem srt_nil {l : List Str} : srt l = [] ↔ l = [] := by
  constructor
  · intro h
    have := srt_len l
    rw [h] at this
    exact List.eq_nil_of_length_eq_zero this.symm
  · intro h
    rw [h]
    exact List.eq_nil_of_length_eq_zero (srt_len [])
theorem lawOrd_eq : ∀ {rs f fs : List Sd}, ordGo (f.map srow) (rs.map srow) = .inl fs → fs = (lawOrd f rs).map srow
  | [], f, fs, h => by cases h; rfl
  | r :: rs, f, fs, h => by
    rw [List.map_cons] at h
    unfold ordGo at h
    unfold lawOrd
    by_cases e : r.2.1 = []
    · rw [if_pos e]
      rw [if_pos (show (srow r).2.1 = [] from srt_nil.mpr e)] at h
      exact lawOrd_eq h
    · rw [if_neg e]
      rw [if_neg (show ¬ (srow r).2.1 = [] from fun z => e (srt_nil.mp z))] at h
      split at h
      · cases h
      · refine lawOrd_eq ?_
        rw [← h]
        have ef : ((f.map srow).filter fun u => aheadB u (srow r)).length = (f.filter fun u => fitsB u r).length := by
          rw [List.filter_map, List.length_map]
          congr 1
          refine List.filter_congr fun x _ => ?_
          exact fitsB_srow
        rw [ef, List.map_append, List.map_append, List.map_take, List.map_drop]
        rfl
theorem lawOrd_names {rows fs : List Sd} (h : orderM (rows.map srow) = .inl fs) : (lawOrd [] rows).map (·.1) = fs.map (·.1) := by
  rw [lawOrd_eq (f := []) h, List.map_map]
  rfl
theorem cut_head (xs : List V) (n : Nat) : cutV xs none (some (n : Int)) = xs.take n := by
  unfold cutV
  rw [HT.sIx_none, HT.sIx_nat, List.drop_zero, Nat.sub_zero]
  by_cases h : n ≤ xs.length
  · rw [Nat.min_eq_left h]
  · rw [Nat.min_eq_right (by omega), List.take_length, List.take_of_length_le (by omega)]
/-- an order stands exactly where any two are comparable -/
theorem order_iff {rows : List Sd} : (∃ fs, orderM (rows.map srow) = .inl fs) ↔ (rows.filter fun r => decide (r.2.1 ≠ [])).Pairwise Comp := by
  constructor
  · rintro ⟨fs, h⟩
    obtain ⟨p, q⟩ := order_chain h
    have pc : fs.Pairwise Comp := p.imp fun k => .inl k
    have sy : ∀ {x y : Sd}, Comp x y → Comp y x := fun k => k.symm
    have pq : ((rows.map srow).filter full1).Pairwise Comp := (q.pairwise_iff sy).mp pc
    rw [List.filter_map] at pq
    have e : rows.filter (full1 ∘ srow) = rows.filter fun r => decide (r.2.1 ≠ []) := List.filter_congr fun r _ => by
      show decide (srt r.2.1 ≠ []) = decide (r.2.1 ≠ [])
      by_cases e : r.2.1 = []
      · rw [decide_eq_false (show ¬ srt r.2.1 ≠ [] from fun z => z (srt_nil.mpr e)), decide_eq_false (show ¬ r.2.1 ≠ [] from fun z => z e)]
      · rw [decide_eq_true (show srt r.2.1 ≠ [] from fun z => e (srt_nil.mp z)), decide_eq_true (show r.2.1 ≠ [] from e)]
    rw [e] at pq
    exact (List.pairwise_map.mp pq).imp fun k => k.imp fits_srow.mp fits_srow.mp
  · exact order_ok
end CP
namespace CP
open L2 PySem PyProof.Rows
def zsN (f : Str → Int) (rows : List Sd) : List Nat := rows.map fun r => (prodF f r.2.1).toNat
theorem prodN_pos : ∀ {zs : List Nat} (r : List Nat), r.reverse = zs → (∀ z ∈ zs, 1 ≤ z) → 1 ≤ Gr.prodN zs
  | _, [], rfl, _ => Nat.le_refl 1
  | _, z :: r, rfl, h => by
    rw [List.reverse_cons, Gr.prodN_app]
    rw [List.reverse_cons] at h
    have a := prodN_pos r rfl fun x hx => h x (List.mem_append_left _ hx)
    have b := h z (List.mem_append_right _ (List.mem_singleton.mpr rfl))
    exact Nat.mul_le_mul a b
theorem prodN_take {zs : List Nat} (h : ∀ z ∈ zs, 1 ≤ z) (i : Nat) : Gr.prodN (zs.take i) ≤ Gr.prodN zs := by
  have e : ∀ (l : List Nat) (a : Nat), l.foldl (· * ·) a = a * Gr.prodN l := by
    intro l
    induction l with
    | nil => intro a; show a = a * 1; omega
    | cons x l ih =>
      intro a
      unfold Gr.prodN
      rw [List.foldl_cons, List.foldl_cons, ih, ih, Nat.one_mul, Nat.mul_assoc]
  have : Gr.prodN zs = Gr.prodN (zs.take i) * Gr.prodN (zs.drop i) := by
    rw [← e]
    unfold Gr.prodN
    rw [← List.foldl_append, List.take_append_drop]
  rw [this]
  have p := prodN_pos _ (List.reverse_reverse (zs.drop i)) fun z hz => h z (List.mem_of_mem_drop hz)
  exact Nat.le_mul_of_pos_right _ p
theorem flat_take {c : List (List Int)} {z i : Nat} {x : List Int} (h : c[i]? = some x) : ((c.take (i + 1)).flatMap fun c => (List.range z).map fun i => c ++ [((i : Nat) : Int)]) = ((c.take i).flatMap fun c => (List.range z).map fun i => c ++ [((i : Nat) : Int)]) ++ (List.range z).map fun i => x ++ [((i : Nat) : Int)] := by
  rw [take_succ h, List.flatMap_append]
  simp
end CP

set_option Elab.async false
set_option linter.all false
set_option maxRecDepth 100000
set_option maxHeartbeats 4000000
set_option autoImplicit false
/-! sorted(d.items()), d a dict of ints by ints -/
namespace CP
open L2 PySem PyProof.Rows

/-- the pair of ints that a value is at a heap -/
def pairOf (h : Heap) (v : Value) : Int × Int := match v with
  | .ref a => match h.get? a with
    | some o => match o.data with
      | .seq xs _ => match xs.toList with
        | [.int x _, .int y _] => (x, y)
        | _ => (0, 0)
      | _ => (0, 0)
    | none => (0, 0)
  | _ => (0, 0)
theorem pairOf_is {h : Heap} {v : Value} {x y : Int} (p : Srt.IsPair h v x y) : pairOf h v = (x, y) := by
  obtain ⟨a, o, t, u, n, rfl, ho, hc, hd⟩ := p
  unfold pairOf
  simp only [ho, hd]
section
variable {P : Program} {w : World} {A : Around} {E : Value → Shared → Prop} {s : Shared}
theorem call_sortedItems {r d : Addr} {ep : Nat} {kvs : List (Key × Value)} {Q : Value → Shared → Prop} (hh : A.handled = none) (hv : s.heap.IsItemsView r d) (hm : s.heap.DictAt (mixKind P w) d kvs ep) (hn : kvs.length ≤ sizeLine) (hne : kvs ≠ [])
    (hi : ∀ p ∈ kvs, ∃ (i j : Int) (t : Tok), p = (Sum.inl i, Value.int j t))
    (h : ∀ (h' : Heap) (tk : Nat) (l : Addr) (as : List Addr) (out : List Value), (∀ b o, s.heap.get? b = some o → h'.get? b = some o) → s.heap.objs.size ≤ l → (∀ a ∈ as, s.heap.objs.size ≤ a ∧ a < l) → as.Nodup →
      as.length = kvs.length → (∀ (j : Nat) (a : Addr), as[j]? = some a → ∃ (x y : Int) (t : Tok), kvs[j]? = some (Sum.inl x, Value.int y t) ∧ Srt.IsPair h' (.ref a) x y) →
      out.Perm (as.map Value.ref) → out.Pairwise (fun u v => SrtO.lexB (pairOf h' v) (pairOf h' u) = false) → (∃ n, h'.get? l = some (seqObj "list" out.toArray n)) → Q (.ref l) { s with heap := h', toks := tk }) :
    wpAny (model P w) A (call (.builtin "sorted") [.ref r]) Q E s := by
  refine Calls.call_function_entry kind_sorted plain_sorted entry_sorted (args_sorted1 _) ?_
  unfold Builtin.«sorted»
  refine wpAny_bind (m := checkCount "sorted" 1 1 _) (wpAny_pure ?_)
  refine wpAny_bind (PySem.W.kdx_collect (knd := mixKind P w) (kvs := kvs) (ep := ep) (A := A.in1) hh hv hm hn fun h1 tk as k1 hl hG => ?_)
  have hlen : (as.map Value.ref).length ≤ sizeLine := by rw [List.length_map, hl]; exact hn
  refine wpAny_bind (wpAny_newList ?_ hlen)
  have pr : ∀ (j : Nat) (a : Addr), as[j]? = some a → ∃ (x y : Int) (t : Tok), kvs[j]? = some (Sum.inl x, Value.int y t) ∧ Srt.IsPair h1 (.ref a) x y := fun j a e => by
    obtain ⟨key, k, x, e1, e2, e3⟩ := hG.pairs j a e
    obtain ⟨i, y, t, ep⟩ := hi _ (List.mem_of_getElem? e1)
    cases ep
    obtain ⟨t2, rfl⟩ : ∃ t2, key = Value.int i t2 := Value.isInt_shape (show Value.isInt i key = true from e2)
    exact ⟨i, y, t, e1, a, _, t2, t, _, rfl, e3, rfl, rfl⟩
  have hp : ∀ v ∈ as.map Value.ref, Srt.IsPair h1 v (pairOf h1 v).1 (pairOf h1 v).2 := fun v hv => by
    obtain ⟨a, ha, rfl⟩ := List.mem_map.mp hv
    obtain ⟨j, hj⟩ := List.mem_iff_getElem?.mp ha
    obtain ⟨x, y, t, _, q⟩ := pr j a hj
    rw [pairOf_is q]
    exact q
  have hoL : (h1.push (seqObj "list" (as.map Value.ref).toArray 0)).get? h1.objs.size = some (seqObj "list" (as.map Value.ref).toArray 0) := Heap.get?_push_size _ rfl
  have sz : s.heap.objs.size ≤ h1.objs.size := by
    cases as with
    | nil => exact absurd (List.length_eq_zero_iff.mp hl.symm) hne
    | cons a l =>
      have q1 := hG.above a (List.mem_cons_self ..)
      have q2 := hG.there (List.mem_cons_self ..)
      exact Nat.le_of_lt (Nat.lt_trans q1 q2)
  refine wpAny_bind (wpAny_holding (wpAny_call_entry slot_list_sort ⟨_, hoL, rfl⟩ entry_list_sort (SrtO.list_sort_ord (SrtO.swo_lex (pairOf h1)) hoL hlen (fun h2 => SrtO.pairs_sortableO (by omega) (fun v hv => (hp v hv).keeps fun b o e _ => Heap.get?_push_of_some _ e) fun o e => ?_) fun out hs hb => ⟨_, rfl, ?_⟩) (args_list_sort _)))
  · have e' := e.symm.trans hoL
    cases e'
    intro c
    exact absurd (Value.type.inj c) (by decide)
  · refine wpAny_pure ⟨_, rfl, ?_⟩
    have old : ∀ b o, h1.get? b = some o → (sortedHeap (h1.push (seqObj "list" (as.map Value.ref).toArray 0)) h1.objs.size (as.map Value.ref) out.toArray).get? b = some o := fun b o e => by
      have lt := Heap.lt_size e
      rw [sortedHeap_old (Nat.ne_of_lt lt) (by rw [Heap.size_push]; exact Nat.lt_succ_of_lt lt)]
      exact Heap.get?_push_of_some _ e
    have pe : ∀ v, v ∈ as.map Value.ref → pairOf (sortedHeap (h1.push (seqObj "list" (as.map Value.ref).toArray 0)) h1.objs.size (as.map Value.ref) out.toArray) v = pairOf h1 v := fun v hv =>
      pairOf_is ((hp v hv).keeps fun b o e _ => old b o e)
    refine h _ tk h1.objs.size as out (fun b o e => old b o (k1 b o e)) sz (fun a ha => ⟨Nat.le_of_lt (hG.above a ha), hG.there ha⟩) (hG.rise.imp fun {a b} (z : a < b) => Nat.ne_of_lt z) hl (fun j a e => ?_) hb.perm ?_ ?_
    · obtain ⟨x, y, t, e1, q⟩ := pr j a e
      exact ⟨x, y, t, e1, q.keeps fun b o e _ => old b o e⟩
    · have hs' : out.Pairwise fun u v => SrtO.lexB (pairOf h1 v) (pairOf h1 u) = false := hs
      refine hs'.imp_of_mem fun {u v} hu hv z => ?_
      rw [pe u (hb.perm.mem_iff.mp hu), pe v (hb.perm.mem_iff.mp hv)]
      exact z
    · exact sortedHeap_at hoL
end
/-- a list of tuples of two ints -/
def PairsAt (H : Hp) (p : Addr) (qs : List (Int × Int)) : Prop := ∃ ts : List Addr, H p = some (.lst (ts.map V.ref)) ∧ Paired (fun (t : Addr) (q : Int × Int) => H t = some (.tup [.int q.1, .int q.2])) ts qs
/-- pairs in order: by the first, then the second -/
def PLe (p q : Int × Int) : Prop := p.1 < q.1 ∨ (p.1 = q.1 ∧ p.2 ≤ q.2)
def tSortedItems (te : TE) : TE := fun σ H Q => te σ H fun x H1 => ∃ (d : Addr) (ps : List (Int × Int)), x = .ref d ∧ H1 d = some (.dK (ps.map fun p => (Sum.inl p.1, V.int p.2))) ∧ ps ≠ [] ∧
  ∀ (qs : List (Int × Int)) (p : Addr) (H' : Hp), qs.Perm ps → qs.Pairwise PLe → Same H1 H' → H1 p = none → PairsAt H' p qs → Q (.ref p) H'
theorem kv_ints : ∀ {ps : List (Int × Int)} {vs : List (Key × Value)}, KV (ps.map fun p => ((Sum.inl p.1 : Key), V.int p.2)) vs → ∀ p ∈ vs, ∃ (i j : Int) (t : Tok), p = (Sum.inl i, Value.int j t)
  | [], _, .nil, p, h => by cases h
  | a :: ps, _, .cons r t, p, h => by
    rcases List.mem_cons.mp h with e | h
    · subst e
      obtain ⟨e1, tk, e2⟩ := r
      exact ⟨a.1, a.2, tk, Prod.ext e1.symm e2⟩
    · exact kv_ints t p h
theorem kv_at : ∀ {ps : List (Int × Int)} {vs : List (Key × Value)}, KV (ps.map fun p => ((Sum.inl p.1 : Key), V.int p.2)) vs → ∀ (j : Nat) (x y : Int) (t : Tok), vs[j]? = some (Sum.inl x, Value.int y t) → ps[j]? = some (x, y)
  | [], _, .nil, j, x, y, t, h => by cases h
  | a :: ps, _, .cons r tl, 0, x, y, t, h => by
    obtain ⟨e1, tk, e2⟩ := r
    cases h
    have e3 := Sum.inl.inj e1
    cases e2
    exact congrArg some (Prod.ext e3 rfl)
  | a :: ps, _, .cons r tl, j + 1, x, y, t, h => kv_at tl j x y t h
/-- the addresses of a list of references -/
def adr (v : Value) : Addr := match v with
  | .ref a => a
  | _ => 0
section
variable {X : Cx} {e : Expr} {te : TE} {p apos cpos pos : Pos}
theorem pe_sortedItems (hc : X.calm = true) (he : PE X e te) (hg : Gl X "sorted") (hm : X.mg "sorted" = none) (hbase : attributeBase e "items" X.env (eval e X.env) = eval e X.env := by rfl) (hline : (apos.endLine == cpos.line) = true := by rfl)
    (hs : starEach [.Call (.Attribute e "items" apos) [] [] cpos] X.env = (false, eval (.Call (.Attribute e "items" apos) [] [] cpos) X.env) :: starEach [] X.env := by rfl) :
    PE X (.Call (.Name "sorted" p) [.Call (.Attribute e "items" apos) [] [] cpos] [] pos) (tSortedItems te) := by
  refine ⟨fun pins s σ H Q I hq => ?_⟩
  have hb : bootBuiltins "sorted" = some (.builtin "sorted") := by decide +kernel
  refine wpAny_Call_Name_kw (ld_blt I hg hm hb ?_)
  refine PyProof.Rows.callWith_builtin1 ?_ hs rfl
  rw [hs]
  show wpAny _ _ (spliced ((false, eval (.Call (.Attribute e "items" apos) [] [] cpos) X.env) :: backTo pos (starEach [] X.env))) _ _ s
  refine Calls.spliced_cons ?_
  refine wpAny_Call_method (T := "dict") (id := "dict.items") hbase rfl hline F.plainAttrs_dict F.slot_dict_items F.type_dict_items
    (thn (he.run pins s σ H _ I hq) fun u s1 ⟨x, H1, I1, rx, d, ps, ex, hd, hne, q⟩ => ?_)
  subst ex
  cases (show u = Value.ref d from rx)
  obtain ⟨hz, hs0, vs, kv, hdo⟩ := I1.hok d _ hd
  obtain ⟨ep, hat⟩ := hdo.dictAt
  have lk := Paired.length kv
  rw [List.length_map] at lk hz
  have I2 : Inv X pins σ H1 { s1 with heap := s1.heap.push { cls := .type "dict_items", data := .fields #[.ref d] } } := I1.kept (t' := s1.toks) fun b ob q => Heap.get?_push_of_some _ q
  refine ⟨hdo.typeIs, hdo.mapOf.noDict, ?_⟩
  show wpAny _ _ (callWith cpos (.builtin "dict.items") [.ref d] [] []) _ X.xe s1
  refine method_meetsIn F.slot_dict_items F.entry_dict_items rfl (PySem.evalArgs_none ⟨rfl, hdo.typeIs, F.args_dict_items_1 _, _, meets_dict_items (mixKind X.prog X.w) d hs0, ⟨vs, hdo⟩, ?_⟩)
  refine Calls.spliced_nil ?_
  have hps : 0 < ps.length := List.length_pos_iff.mpr hne
  refine call_sortedItems (kvs := vs) (ep := ep) (I1.ok.hd hc) ⟨_, Heap.get?_push_size _ rfl, rfl, rfl⟩ (hat.push _) (by omega) (fun z => by rw [z, List.length_nil] at lk; omega) (kv_ints kv) fun h' tk l as out k1 k2 k3 k4 k5 k6 k7 k8 k9 => ?_
  -- where each tuple stands
  have pt : ∀ (j : Nat) (a : Addr), as[j]? = some a → ∃ x y, ps[j]? = some (x, y) ∧ Srt.IsPair h' (.ref a) x y := fun j a ej => by
    obtain ⟨x, y, t, e1, e2⟩ := k6 j a ej
    exact ⟨x, y, kv_at kv j x y t e1, e2⟩
  have fr : ∀ b, s1.heap.objs.size + 1 ≤ b → H1 b = none := fun b hb => I2.hok.fresh (by rw [Heap.size_push]; exact hb)
  rw [Heap.size_push] at k2 k3
  have nl : l ∉ as := fun z => Nat.lt_irrefl _ (k3 l z).2
  let H' : Hp := fun b => if b = l then some (.lst ((out.map adr).map V.ref)) else if b ∈ as then some (.tup [.int (pairOf h' (.ref b)).1, .int (pairOf h' (.ref b)).2]) else H1 b
  have hl' : H' l = some (.lst ((out.map adr).map V.ref)) := if_pos rfl
  have ha' : ∀ a ∈ as, H' a = some (.tup [.int (pairOf h' (.ref a)).1, .int (pairOf h' (.ref a)).2]) := fun a ha => by
    show (if a = l then _ else _) = _
    rw [if_neg (fun z : a = l => nl (by rw [← z]; exact ha)), if_pos ha]
  have ext : Same H1 H' := fun b o eb => by
    show (if b = l then _ else _) = _
    rw [if_neg (fun z => by rw [z, fr l k2] at eb; cases eb), if_neg (fun z => by rw [fr b (k3 b z).1] at eb; cases eb)]
    exact eb
  have outr : ∀ v ∈ out, ∃ a, a ∈ as ∧ v = Value.ref a := fun v hv => by
    obtain ⟨a, ha, rfl⟩ := List.mem_map.mp (k7.mem_iff.mp hv)
    exact ⟨a, ha, rfl⟩
  have vr : ∀ l : List Value, (∀ v ∈ l, ∃ a, a ∈ as ∧ v = Value.ref a) → Vals ((l.map adr).map V.ref) l := by
    intro l
    induction l with
    | nil => intro _; exact .nil
    | cons v l ih =>
      intro hl
      obtain ⟨a, _, rfl⟩ := hl v (List.mem_cons_self ..)
      exact .cons rfl (ih fun u hu => hl u (List.mem_cons_of_mem _ hu))
  have len : out.length = ps.length := by rw [k7.length_eq, List.length_map, k5, ← lk]
  have J : Inv X pins σ H' { s1 with heap := h', toks := tk } := inv_grow (s := s1) (tk := tk) I1 (fun b o e => k1 b o (Heap.get?_push_of_some _ e)) ext fun b o eb => by
    by_cases h1 : b = l
    · subst h1
      rw [hl'] at eb
      cases eb
      obtain ⟨n, hn⟩ := k9
      refine .inr ⟨Nat.le_of_succ_le k2, by rw [List.length_map, List.length_map]; omega, out, n, vr out outr, hn⟩
    · by_cases h2 : b ∈ as
      · rw [ha' b h2] at eb
        cases eb
        obtain ⟨j, hj⟩ := List.mem_iff_getElem?.mp h2
        obtain ⟨x, y, _, ip⟩ := pt j b hj
        rw [pairOf_is ip]
        obtain ⟨a, ob, t, u, n, ea, g1, g2, g3⟩ := ip
        cases ea
        refine .inr ⟨Nat.le_of_succ_le (k3 b h2).1, by show 2 ≤ sizeLine; decide, [.int x t, .int y u], .cons ⟨t, rfl⟩ (.cons ⟨u, rfl⟩ .nil), ob, g1, g2, n, g3⟩
      · have e3 : H' b = H1 b := by
          show (if b = l then _ else _) = _
          rw [if_neg h1, if_neg h2]
        rw [e3] at eb
        exact .inl eb
  refine ⟨.ref l, H', J, rfl, q (out.map (pairOf h')) l H' ?_ ?_ ext (fr l k2) ⟨out.map adr, hl', ?_⟩⟩
  · refine (k7.map (pairOf h')).trans ?_
    rw [List.map_map]
    refine List.Perm.of_eq ?_
    apply List.ext_getElem?
    intro j
    rw [List.getElem?_map]
    cases ej : as[j]? with
    | none =>
      have : as.length ≤ j := List.getElem?_eq_none_iff.mp ej
      rw [List.getElem?_eq_none (by omega)]
      rfl
    | some a =>
      obtain ⟨x, y, e1, ip⟩ := pt j a ej
      rw [e1]
      show some (pairOf h' (.ref a)) = _
      rw [pairOf_is ip]
  · rw [List.pairwise_map]
    refine k8.imp fun {u v} z => ?_
    have z := SrtO.lexB_no.mp z
    show _ ∨ _
    omega
  · have pr : ∀ l : List Value, (∀ v ∈ l, ∃ a, a ∈ as ∧ v = Value.ref a) → Paired (fun (t : Addr) (q : Int × Int) => H' t = some (.tup [.int q.1, .int q.2])) (l.map adr) (l.map (pairOf h')) := by
      intro l
      induction l with
      | nil => intro _; exact .nil
      | cons v l ih =>
        intro hl
        obtain ⟨a, ha, rfl⟩ := hl v (List.mem_cons_self ..)
        exact .cons (ha' a ha) (ih fun u hu => hl u (List.mem_cons_of_mem _ hu))
    exact pr out outr
end
end CP

set_option Elab.async false
set_option linter.all false
set_option maxRecDepth 100000
set_option maxHeartbeats 4000000
set_option autoImplicit false
/-! data compared: lists of ints and of pairs of ints -/
namespace CP
open L2 PySem PyProof.Rows
section
variable {K : PySem.W.Frag} {H : Hp} {Q : VK}
theorem ints_dpA : ∀ xs : List Int, DpAll K H (xs.map V.int) (xs.map PyData.int)
  | [] => .nil
  | x :: xs => .cons (.int x) (ints_dpA xs)
theorem ints_lay : ∀ xs : List Int, PyData.canLayAll0 (xs.map PyData.int) = true ∧ PyData.depthAll (xs.map PyData.int) = 0
  | [] => ⟨by simp [PyData.canLayAll0], by simp [PyData.depthAll]⟩
  | x :: xs => by
    obtain ⟨h1, h2⟩ := ints_lay xs
    refine ⟨by simp [PyData.canLayAll0, PyData.canLay0, h1], ?_⟩
    simp only [List.map_cons, PyData.depthAll, PyData.depth]
    omega
theorem ints_shaped (xs : List Int) : SeqAt.shaped (.list (xs.map PyData.int)) = true := by
  obtain ⟨h1, h2⟩ := ints_lay xs
  refine Bool.and_eq_true_iff.mpr ⟨by simp only [PyData.canLay0]; exact h1, decide_eq_true ?_⟩
  simp only [PyData.depth]
  omega
theorem ints_ne {a b : Addr} {xs ys : List Int} (h : SqL K H a (xs.map V.int)) (h2 : SqL K H b (ys.map V.int)) (q : Q (.bl (!decide (xs = ys))) H) : rNeD K (.ref a) (.ref b) H Q := by
  refine ⟨_, _, .lst h (ints_dpA xs), .lst h2 (ints_dpA ys), ints_shaped xs, ints_shaped ys, ?_⟩
  show Q (.bl (!PyData.eqvAll (xs.map PyData.int) (ys.map PyData.int))) H
  rw [PySem.W.ked_eqvAll]
  exact q
theorem ints_eq {a b : Addr} {xs ys : List Int} (h : SqL K H a (xs.map V.int)) (h2 : SqL K H b (ys.map V.int)) (q : Q (.bl (decide (xs = ys))) H) : rEqD K (.ref a) (.ref b) H Q := by
  refine ⟨_, _, .lst h (ints_dpA xs), .lst h2 (ints_dpA ys), ints_shaped xs, ints_shaped ys, ?_⟩
  show Q (.bl (PyData.eqvAll (xs.map PyData.int) (ys.map PyData.int))) H
  rw [PySem.W.ked_eqvAll]
  exact q
/-! pairs -/
def pairD (q : Int × Int) : PyData := .tuple [.int q.1, .int q.2]
theorem pairD_dp {ts : List Addr} {qs : List (Int × Int)} (h : Paired (fun (t : Addr) (q : Int × Int) => H t = some (.tup [.int q.1, .int q.2])) ts qs) : DpAll K H (ts.map V.ref) (qs.map pairD) := by
  induction h with
  | nil => exact .nil
  | cons h _ ih => exact .cons (.tup (.of h) (.cons (.int _) (.cons (.int _) .nil))) ih
theorem pairs_dp {p : Addr} {qs : List (Int × Int)} (h : PairsAt H p qs) : Dp K H (.ref p) (.list (qs.map pairD)) := by
  obtain ⟨ts, e, h⟩ := h
  exact .lst (.of e) (pairD_dp h)
theorem pairs_same {H H' : Hp} {p : Addr} {qs : List (Int × Int)} (s : Same H H') (h : PairsAt H p qs) : PairsAt H' p qs := by
  obtain ⟨ts, e, h⟩ := h
  exact ⟨ts, CP.Same.to s e, pd_mono h fun _ _ z => CP.Same.to s z⟩
theorem pairD_lay : ∀ qs : List (Int × Int), PyData.canLayAll0 (qs.map pairD) = true ∧ PyData.depthAll (qs.map pairD) ≤ 1
  | [] => ⟨by simp [PyData.canLayAll0], by simp [PyData.depthAll]⟩
  | q :: qs => by
    obtain ⟨h1, h2⟩ := pairD_lay qs
    have h3 : (pairD q).canLay0 = true := by simp [pairD, PyData.canLay0, PyData.canLayAll0]
    have h4 : (pairD q).depth = 1 := by simp [pairD, PyData.depth, PyData.depthAll]
    refine ⟨by simp [PyData.canLayAll0, h1, h3], ?_⟩
    simp only [List.map_cons, PyData.depthAll]
    omega
theorem pairs_shaped (qs : List (Int × Int)) : SeqAt.shaped (.list (qs.map pairD)) = true := by
  obtain ⟨h1, h2⟩ := pairD_lay qs
  refine Bool.and_eq_true_iff.mpr ⟨by simp only [PyData.canLay0]; exact h1, decide_eq_true ?_⟩
  simp only [PyData.depth]
  omega
theorem pairs_ne {p p2 : Addr} {qs : List (Int × Int)} (h : PairsAt H p qs) (h2 : PairsAt H p2 qs) (q : Q (.bl false) H) : rNeD K (.ref p) (.ref p2) H Q := by
  refine ⟨_, _, pairs_dp h, pairs_dp h2, pairs_shaped qs, pairs_shaped qs, ?_⟩
  rw [SeqAt.eqv_refl _ (SeqAt.canLay_of_shaped (pairs_shaped qs))]
  exact q
theorem pairs_eq {p p2 : Addr} {qs : List (Int × Int)} (h : PairsAt H p qs) (h2 : PairsAt H p2 qs) (q : Q (.bl true) H) : rEqD K (.ref p) (.ref p2) H Q := by
  refine ⟨_, _, pairs_dp h, pairs_dp h2, pairs_shaped qs, pairs_shaped qs, ?_⟩
  rw [SeqAt.eqv_refl _ (SeqAt.canLay_of_shaped (pairs_shaped qs))]
  exact q
end
section
variable {K : PySem.W.Frag} {a : Addr} {g : TG} {tt : TT} {te : TE} {vs : List Nat} {σ : L2.St} {H1 : Hp} {D : Addr} {Qd : Hp → Prop}
/-- a comprehension over a list of pairs of ints -/
theorem lc_pairs {qs : List (Int × Int)} (f : Int × Int → Option V) (hD : H1 D = none) (h : PairsAt H1 a qs) (hz : qs.length < sizeLine)
    (hs : ∀ (t : Addr) (u v : Int) (H : Hp), (u, v) ∈ qs → Same H1 H → H t = some (.tup [.int u, .int v]) → Turn g tt te vs σ (fun _ x b => x = b) D H (.ref t) (f (u, v)))
    (hd : ∀ H, Same H1 H → H D = some (.lst (qs.filterMap f)) → Qd H) :
    ∃ W : Nat → Nat → Hp → Prop, (∃ m, W 0 m (upd H1 D (.lst []))) ∧ ∀ i m H, W i m H →
      ((Itl K a).stop i H ∧ Qd H) ∨ ((Itl K a).go i H ∧ ∃ Nx : Hp → Prop, (∀ H', Nx H' → ∃ m', m' < m ∧ W (i + 1) m' H') ∧ ∀ x H', (Itl K a).yld i H x H' → g x (wipe σ vs) H' fun σ2 H2 => wipe σ2 vs = wipe σ vs ∧ tt σ2 H2 fun b H3 =>
        if b = true then te σ2 H3 fun y H4 => ∃ acc, H4 D = some (.lst acc) ∧ acc.length < sizeLine ∧ Nx (upd H4 D (.lst (acc ++ [y]))) else Nx H3) := by
  obtain ⟨ts, e, pr⟩ := h
  have ln := pd_len pr
  refine lc_tell (β := V) (fun _ x b => x = b) (qs.map f) hD (.of e) (by rw [List.length_map, List.length_map, ln]) (by rw [List.length_map]; exact hz) (fun _ _ _ _ _ z => z) (fun i x o H hx ho s1 hacc => ?_) fun H acc s1 hacc pp => ?_
  · rw [List.getElem?_map] at hx
    cases et : ts[i]? with
    | none => rw [et] at hx; cases hx
    | some t =>
      rw [et] at hx
      cases hx
      obtain ⟨q, hq, ht⟩ := pd_get pr et
      rw [List.getElem?_map, hq] at ho
      cases ho
      exact hs t q.1 q.2 H (List.mem_of_getElem? hq) s1 (CP.Same.to s1 ht)
  · have ea := pd_eq pp
    rw [ea, List.filterMap_map] at hacc
    exact hd H s1 hacc
end
end CP

set_option Elab.async false
set_option linter.all false
set_option maxRecDepth 100000
set_option maxHeartbeats 4000000
set_option autoImplicit false
/-! two cells with one place: that the ones told are right -/
namespace CP
open L2 PySem PyProof.Rows
theorem restOf_perm {o l m : List Str} (h : restOf l o = some m) : l.Perm (o ++ m) := List.perm_iff_count.mpr fun w => by rw [restOf_count h w, List.count_append]; omega
theorem setAll_get {n : Int} : ∀ {ks : List Str} {v : List (Str × Int)} {k : Str}, getD (setAll v ks n) k = if k ∈ ks then some n else getD v k
  | [], v, k => rfl
  | x :: ks, v, k => by
    show getD (setAll (setD v x n) ks n) k = _
    rw [setAll_get, getD_setD]
    by_cases h : k ∈ ks
    · rw [if_pos h, if_pos (List.mem_cons_of_mem _ h)]
    · rw [if_neg h]
      by_cases e : x = k
      · rw [if_pos e, if_pos (by rw [e]; exact List.mem_cons_self ..)]
      · rw [if_neg e, if_neg (fun z => (List.mem_cons.mp z).elim (fun z => e z.symm) h)]
theorem prodF_same {f : Str → Int} {n : Int} : ∀ {l : List Str}, (∀ k ∈ l, f k = n) → prodF f l = n ^ l.length
  | [], _ => by rw [List.length_nil, Int.pow_zero]; rfl
  | k :: l, h => by
    rw [prodF_cons, h k (List.mem_cons_self ..), prodF_same fun x hx => h x (List.mem_cons_of_mem _ hx), List.length_cons, Int.pow_succ, Int.mul_comm]
theorem prodF_two {f : Str → Int} {l : List Str} (h : ∀ k ∈ l, 2 ≤ f k) (ne : l ≠ []) : 2 ≤ prodF f l := by
  obtain ⟨x, m, rfl⟩ := List.exists_cons_of_ne_nil ne
  have a := h x (List.mem_cons_self ..)
  have b := prodF_one (f := f) (l := m) fun k hk => by have := h k (List.mem_cons_of_mem _ hk); omega
  rw [prodF_cons]
  have := Int.mul_le_mul a b (by decide) (by omega)
  omega
/-! names apart -/
theorem ordGo_ne : ∀ {rs f : List Sd} {u v : Sd}, (∀ x ∈ f, x.2.1 ≠ [] ∧ x.1 ∉ rs.map (·.1)) → (rs.map (·.1)).Nodup → ordGo f rs = .inr (u, v) → u.1 ≠ v.1 ∧ u.2.1 ≠ [] ∧ v.2.1 ≠ []
  | [], f, u, v, _, _, h => by cases h
  | r :: rs, f, u, v, hf, nd, h => by
    obtain ⟨n1, n2⟩ := List.pairwise_cons.mp nd
    have hf' : ∀ x ∈ f, x.2.1 ≠ [] ∧ x.1 ∉ rs.map (·.1) := fun x hx => ⟨(hf x hx).1, fun z => (hf x hx).2 (List.mem_cons_of_mem _ z)⟩
    unfold ordGo at h
    by_cases e : r.2.1 = []
    · rw [if_pos e] at h
      exact ordGo_ne hf' n2 h
    · rw [if_neg e] at h
      split at h
      · rename_i w ws ew
        cases h
        have hw : u ∈ f := (List.mem_filter.mp (show u ∈ f.filter fun f => !aheadB f r && !aheadB r f by rw [ew]; exact List.mem_cons_self ..)).1
        exact ⟨fun z => (hf u hw).2 (by rw [z]; exact List.mem_cons_self ..), (hf u hw).1, e⟩
      · refine ordGo_ne (fun x hx => ?_) n2 h
        rcases List.mem_append.mp hx with z | z
        · rcases List.mem_append.mp z with z | z
          · exact hf' x (List.mem_of_mem_take z)
          · rw [List.mem_singleton.mp z]
            exact ⟨e, fun z => n1 _ z rfl⟩
        · exact hf' x (List.mem_of_mem_drop z)
/-! cells with one index alone -/
theorem cf_of {c : Sd → Int} {rows : List Sd} (nd : rows.Nodup) {r : Sd} (h : r ∈ rows) : cf rows (rows.map c) r = c r := by
  unfold cf
  have lt : rows.idxOf r < rows.length := List.idxOf_lt_length_iff.mpr h
  rw [List.getElem?_map, List.getElem?_eq_getElem lt, List.getElem_idxOf lt]
  rfl
theorem spot_zero {f : Str → Int} {c : Sd → Int} : ∀ {rows : List Sd}, (∀ r ∈ rows, c r = 0) → spotF f c rows = 0
  | [], _ => rfl
  | r :: rows, h => by
    have i := spot_zero (f := f) fun x hx => h x (List.mem_cons_of_mem _ hx)
    unfold spotF at i ⊢
    rw [Gr.spot_cons, h r (List.mem_cons_self ..), i]
    simp
theorem spot_lone {f : Str → Int} {n : Int} {u : Sd} : ∀ {rows : List Sd}, (rows.map (·.1)).Nodup → u ∈ rows → spotF f (fun r => if r.1 = u.1 then n else 0) rows = n * prodF f u.2.2
  | [], _, h => nomatch h
  | r :: rows, nd, h => by
    obtain ⟨n1, n2⟩ := List.pairwise_cons.mp nd
    show Gr.spot _ _ _ = _
    rw [Gr.spot_cons]
    rcases List.mem_cons.mp h with rfl | h
    · have := spot_zero (f := f) (c := fun r => if r.1 = u.1 then n else 0) (rows := rows) fun x hx => if_neg fun z => n1 x.1 (List.mem_map.mpr ⟨x, hx, rfl⟩) z.symm
      unfold spotF at this
      rw [if_pos rfl, this]
      simp
    · have := spot_lone (f := f) (n := n) n2 h
      unfold spotF at this
      rw [this, if_neg (fun z => n1 u.1 (List.mem_map.mpr ⟨u, h, rfl⟩) z)]
      simp
theorem lone_cell {f : Str → Int} {rows : List Sd} {u : Sd} {n : Int} (hR : Rows rows) (hu : u ∈ rows) (h0 : 0 ≤ n) (h1 : n < prodF f u.2.1) (hf : ∀ r ∈ rows, ∀ k ∈ r.2.1, 1 ≤ f k) : Cell f rows (loneM rows u.1 n) := by
  refine ⟨by unfold loneM; rw [List.length_map], fun r hr => ?_⟩
  unfold loneM
  rw [cf_of hR.nd hr]
  have p := prodF_one fun k hk => hf r hr k hk
  by_cases e : r.1 = u.1
  · rw [if_pos e]
    have : r = u := by
      have e1 := cf_of (c := fun r => if r.1 = u.1 then (1 : Int) else 0) hR.nd hr
      refine Classical.byContradiction fun ne => ?_
      obtain ⟨i, hi, ei⟩ := List.mem_iff_getElem.mp hr
      obtain ⟨j, hj, ej⟩ := List.mem_iff_getElem.mp hu
      have d := hR.dis
      have ij : i ≠ j := fun z => ne (by subst z; rw [← ei, ← ej])
      have di := List.pairwise_iff_getElem.mp d
      have li : i < (rows.map (·.1)).length := by rw [List.length_map]; exact hi
      have lj : j < (rows.map (·.1)).length := by rw [List.length_map]; exact hj
      rcases Nat.lt_or_gt_of_ne ij with l | l
      · exact di i j li lj l (by rw [List.getElem_map, List.getElem_map, ei, ej, e])
      · exact di j i lj li l (by rw [List.getElem_map, List.getElem_map, ei, ej, e])
    rw [this]
    exact ⟨h0, h1⟩
  · rw [if_neg e]
    exact ⟨Int.le_refl _, by omega⟩
theorem lone_spot {f : Str → Int} {rows : List Sd} {u : Sd} {n : Int} (hR : Rows rows) (hu : u ∈ rows) : spotL f rows (loneM rows u.1 n) = n * prodF f u.2.2 := by
  unfold loneM
  rw [spot_map, spot_lone hR.dis hu]
theorem lone_ne {rows : List Sd} {u v : Sd} {n m : Int} (hR : Rows rows) (hu : u ∈ rows) (ne : u.1 ≠ v.1) (n0 : n ≠ 0) : loneM rows u.1 n ≠ loneM rows v.1 m := fun e => by
  have a := congrArg (fun c => cf rows c u) e
  unfold loneM at a
  rw [cf_of hR.nd hu, cf_of hR.nd hu, if_pos rfl, if_neg ne] at a
  exact n0 a
/-! the values told -/
theorem Grown.ends2 {szs : List Str} {name : Str} {i : Nat} {v : List (Str × Int)} (h : Grown szs name i v) {l m : List Str} (hl : ∀ k ∈ l, k ∈ szs) (hm : ∀ k ∈ m, k ∈ szs) (c : m.count name < l.count name) (lm : m.length ≤ 12) (le : prodF (atD v) l ≤ prodF (atD v) m) : i ≤ 11 := by
  rw [h.prod hl, h.prod hm] at le
  refine Classical.byContradiction fun n => ?_
  have l1 : l.count name ≤ l.length := List.count_le_length
  have : m.length + i * m.count name < l.length + i * l.count name := by
    have : i * (m.count name + 1) ≤ i * l.count name := Nat.mul_le_mul_left _ c
    rw [Nat.mul_add, Nat.mul_one] at this
    omega
  have := two_lt this
  omega
theorem grow_res {szs one second : List Str} {name : Str} (hn : name ∈ szs) (hl : ∀ k ∈ one, k ∈ szs) (hm : ∀ k ∈ second, k ∈ szs) (c : second.count name < one.count name) (lm : second.length ≤ 12) :
    ∀ (n i : Nat) (v : List (Str × Int)), Grown szs name i v → i ≤ 12 → 13 ≤ i + n → ∃ j, j ≤ 12 ∧ Grown szs name j (grow one second name n v) ∧ ¬ prodF (atD (grow one second name n v)) one ≤ prodF (atD (grow one second name n v)) second
  | 0, i, v, _, h1, h2 => by omega
  | n + 1, i, v, g, h1, h2 => by
    rw [grow_step]
    by_cases le : prodF (atD v) one ≤ prodF (atD v) second
    · rw [if_pos le]
      have := g.ends2 hl hm c lm le
      exact grow_res hn hl hm c lm n (i + 1) _ (g.succ hn) (by omega) (by omega)
    · rw [if_neg le]
      exact ⟨i, h1, g, le⟩
structure ClashOk (rows : List Sd) (kv : List (Str × Int)) (c1 c2 : List Int) : Prop where
  keys : kv.map (·.1) = sizesM rows
  small : Small kv (sizesM rows)
  one : Cell (atD kv) rows c1
  two : Cell (atD kv) rows c2
  ne : c1 ≠ c2
  spot : spotL (atD kv) rows c1 = spotL (atD kv) rows c2
  low : ∀ n, n ∈ c1 ∨ n ∈ c2 → -(2 ^ 200) < n ∧ n < 2 ^ 200
theorem lone_low {rows : List Sd} {z : Str} {n : Int} (h : -(2 ^ 200) < n ∧ n < 2 ^ 200) : ∀ m ∈ loneM rows z n, -(2 ^ 200) < m ∧ m < 2 ^ 200 := fun m hm => by
  unfold loneM at hm
  obtain ⟨r, _, rfl⟩ := List.mem_map.mp hm
  split
  · exact h
  · decide
theorem clash2_ok {rows : List Sd} {one other : Sd} {second : List Str} (hR : Rows rows) (hu : one ∈ rows) (hv : other ∈ rows) (ne : one.1 ≠ other.1) (nv : other.2.1 ≠ []) {name : Str} (more : moreM one.2.1 second = some name)
    (l2 : second.length ≤ 12) (p : other.2.2.Perm (one.2.2 ++ second)) :
    ∃ kv c1 c2, clash2 rows (allTwo (sizesM rows)) one other second = some (kv, c1, c2) ∧ ClashOk rows kv c1 c2 := by
  obtain ⟨m1, m2⟩ := more_prop more
  have sub : ∀ {r : Sd}, r ∈ rows → ∀ k ∈ r.2.1, k ∈ sizesM rows := fun hr k hk => mem_sizes hr (List.mem_append_left _ hk)
  have sub2 : ∀ k ∈ second, k ∈ sizesM rows := fun k hk => mem_sizes hv (List.mem_append_right _ (p.mem_iff.mpr (List.mem_append_right _ hk)))
  obtain ⟨j, j12, g, nle⟩ := grow_res (sub hu name m1) (sub hu) sub2 m2 l2 100 0 _ (grown_zero (sizesM rows) name) (by omega) (by omega)
  refine ⟨_, _, _, by unfold clash2; rw [more], ?_⟩
  generalize grow one.2.1 second name 100 (allTwo (sizesM rows)) = w at g nle ⊢
  have v2 : ∀ k ∈ sizesM rows, 2 ≤ atD w k ∧ atD w k ≤ 2 ^ 13 := fun k hk => by
    rw [g.at_ hk]
    constructor
    · exact two_le (a := 1) (by split <;> omega)
    · exact two_le (by split <;> omega)
  have s2 : prodF (atD w) second < 2 ^ 200 ∧ 1 ≤ prodF (atD w) second := by
    rw [g.prod sub2]
    have c : second.count name ≤ second.length := List.count_le_length
    have : j * second.count name ≤ 12 * 12 := Nat.mul_le_mul j12 (by omega)
    exact ⟨two_lt (by omega), two_le (a := 0) (by omega)⟩
  have f1 : ∀ r ∈ rows, ∀ k ∈ r.2.1, 1 ≤ atD w k := fun r hr k hk => by have := (v2 k (sub hr k hk)).1; omega
  have nle := Int.lt_of_not_ge nle
  have o2 := prodF_two (f := atD w) (l := other.2.1) (fun k hk => (v2 k (sub hv k hk)).1) nv
  refine ⟨g.1, fun k hk => ⟨by rw [g.2 k hk]; rfl, by have := (v2 k hk).1; omega, (v2 k hk).2⟩, lone_cell hR hu (by omega) nle f1, lone_cell hR hv (by omega) (by omega) f1, lone_ne hR hu ne (by omega), ?_, fun n hn => ?_⟩
  · rw [lone_spot hR hu, lone_spot hR hv, prodF_perm p, prodF_append, Int.one_mul, Int.mul_comm]
  · rcases hn with hn | hn
    · exact lone_low ⟨by omega, s2.1⟩ n hn
    · exact lone_low ⟨by decide, by decide⟩ n hn
/-- where no order stands, what clash tells is right -/
theorem clash_ok {rows : List Sd} {one other : Sd} (hR : Rows rows) (low : ∀ r ∈ rows, r.2.1.length ≤ 12 ∧ r.2.2.length ≤ 12) (e : orderM rows = .inr (one, other)) : ∃ kv c1 c2, clashM rows = some (kv, c1, c2) ∧ ClashOk rows kv c1 c2 := by
  obtain ⟨hu, hv⟩ := order_inr e
  obtain ⟨ne, nu, nv⟩ := ordGo_ne (f := []) (by simp) hR.dis e
  obtain ⟨a1, a2⟩ := ordGo_apart e
  obtain ⟨⟨first, h1⟩, ⟨second, h2⟩⟩ := shared_rest one.2.2 other.2.2
  have r1 : restOf other.2.2 (one.2.1 ++ one.2.2) = none := by
    unfold aheadB at a1
    cases k : restOf other.2.2 (one.2.1 ++ one.2.2) with
    | none => rfl
    | some _ => rw [k] at a1; cases a1
  have r2 : restOf one.2.2 (other.2.1 ++ other.2.2) = none := by
    unfold aheadB at a2
    cases k : restOf one.2.2 (other.2.1 ++ other.2.2) with
    | none => rfl
    | some _ => rw [k] at a2; cases a2
  have l1 := restOf_len h1
  have l2 := restOf_len h2
  have b1 := (low one hu).2
  have b2 := (low other hv).2
  have p1 := restOf_perm h1
  have p2 := restOf_perm h2
  unfold clashM
  rw [e]
  dsimp only
  rw [h1, h2]
  dsimp only
  have sub : ∀ {r : Sd}, r ∈ rows → ∀ k ∈ r.2.1, k ∈ sizesM rows := fun hr k hk => mem_sizes hr (List.mem_append_left _ hk)
  by_cases n1 : first = []
  · rw [if_neg (fun z => z n1)]
    subst n1
    obtain ⟨name, more⟩ := more_some r1 h1 h2
    rw [List.append_nil] at p1
    exact clash2_ok hR hu hv ne nv more (by omega) (p2.trans (p1.symm.append_right second))
  · rw [if_pos n1]
    by_cases n2 : second = []
    · rw [if_neg (fun z => z n2)]
      subst n2
      obtain ⟨name, more⟩ := more_some' r2 h2 h1
      rw [List.append_nil] at p2
      exact clash2_ok hR hv hu (Ne.symm ne) nu more (by omega) (p1.trans (p2.symm.append_right first))
    · rw [if_pos n2]
      refine ⟨_, _, _, rfl, ?_⟩
      have f1 : ∀ k ∈ first, k ∈ sizesM rows := fun k hk => mem_sizes hu (List.mem_append_right _ (p1.mem_iff.mpr (List.mem_append_right _ hk)))
      have f2 : ∀ k ∈ second, k ∈ sizesM rows := fun k hk => mem_sizes hv (List.mem_append_right _ (p2.mem_iff.mpr (List.mem_append_right _ hk)))
      have apart : ∀ k ∈ first, k ∉ second := fun k hk hk2 => by
        have c1 := restOf_count h1 k
        have c2 := restOf_count h2 k
        have q1 := List.count_pos_iff.mpr hk
        have q2 := List.count_pos_iff.mpr hk2
        have s := shared_count one.2.2 other.2.2 k
        unfold sharedM at c1 c2
        omega
      have kk : (setAll (setAll (allTwo (sizesM rows)) first (2 ^ second.length)) second (2 ^ first.length)).map (·.1) = sizesM rows := by
        rw [setAll_keys, setAll_keys, allTwo_keys]
        · rw [allTwo_keys]; exact f1
        · rw [setAll_keys, allTwo_keys]
          · exact f2
          · rw [allTwo_keys]; exact f1
      have gv : ∀ k ∈ sizesM rows, getD (setAll (setAll (allTwo (sizesM rows)) first (2 ^ second.length)) second (2 ^ first.length)) k = some (if k ∈ second then 2 ^ first.length else if k ∈ first then 2 ^ second.length else 2) := fun k hk => by
        rw [setAll_get, setAll_get, allTwo_get hk]
        split
        · rfl
        · split <;> rfl
      generalize setAll (setAll (allTwo (sizesM rows)) first (2 ^ second.length)) second (2 ^ first.length) = w at kk gv ⊢
      have e1 : 1 ≤ first.length := List.length_pos_iff.mpr n1
      have e2 : 1 ≤ second.length := List.length_pos_iff.mpr n2
      have av : ∀ k ∈ sizesM rows, atD w k = 2 ^ (if k ∈ second then first.length else if k ∈ first then second.length else 1) := fun k hk => by
        unfold atD
        rw [gv k hk]
        show (if k ∈ second then (2 : Int) ^ first.length else if k ∈ first then 2 ^ second.length else 2) = _
        split
        · rfl
        · split <;> rfl
      have v2 : ∀ k ∈ sizesM rows, 2 ≤ atD w k ∧ atD w k ≤ 2 ^ 13 := fun k hk => by
        rw [av k hk]
        have x1 : 1 ≤ (if k ∈ second then first.length else if k ∈ first then second.length else 1) := by
          split
          · exact e1
          · split
            · exact e2
            · exact Nat.le_refl _
        have x2 : (if k ∈ second then first.length else if k ∈ first then second.length else 1) ≤ 13 := by
          split
          · omega
          · split <;> omega
        exact ⟨two_le (a := 1) x1, two_le x2⟩
      have s1 : prodF (atD w) first = 2 ^ (second.length * first.length) := by
        rw [prodF_same (n := 2 ^ second.length) fun k hk => by rw [av k (f1 k hk), if_neg (apart k hk), if_pos hk], ← Int.pow_mul]
      have s2 : prodF (atD w) second = 2 ^ (second.length * first.length) := by
        rw [prodF_same (n := 2 ^ first.length) fun k hk => by rw [av k (f2 k hk), if_pos hk], ← Int.pow_mul, Nat.mul_comm]
      have g1 : ∀ r ∈ rows, ∀ k ∈ r.2.1, 1 ≤ atD w k := fun r hr k hk => by have := (v2 k (sub hr k hk)).1; omega
      have o1 := prodF_two (f := atD w) (l := one.2.1) (fun k hk => (v2 k (sub hu k hk)).1) nu
      have o2 := prodF_two (f := atD w) (l := other.2.1) (fun k hk => (v2 k (sub hv k hk)).1) nv
      refine ⟨kk, fun k hk => ⟨by rw [gv k hk]; rfl, by have := (v2 k hk).1; omega, (v2 k hk).2⟩, lone_cell hR hu (by omega) (by omega) g1, lone_cell hR hv (by omega) (by omega) g1, lone_ne hR hu ne (by omega), ?_, fun n hn => ?_⟩
      · rw [lone_spot hR hu, lone_spot hR hv, prodF_perm p1, prodF_perm p2, prodF_append, prodF_append, s1, s2]
      · rcases hn with hn | hn
        · exact lone_low ⟨by decide, by decide⟩ n hn
        · exact lone_low ⟨by decide, by decide⟩ n hn
end CP
namespace CP
open L2 PySem PyProof.Rows
def oSortD : List V → Hp → VK → Prop := fun xs H Q => ∃ (a : Addr) (kvs : List (Key × V)) (ks : List Str), xs = [.ref a] ∧ Rd H a (.dK kvs) ∧ kvs.map (·.1) = ks.map Sum.inr ∧ ks.length < 64 ∧ ∀ ys p, ys.Perm ks → sortedS ys = true → H p = none → Q (.ref p) (upd H p (.lst (ys.map V.str)))
theorem cr_sortD {X : Cx} (hc : X.calm = true) : CallR X (.builtin "sorted") oSortD := call_sortedD hc
section
variable {K : PySem.W.Frag} {σ : L2.St} {H : Hp} {Q : VK} {ta : TE} {a b : Addr}
theorem r_sortD {kv : List (Str × Int)} (h : H a = some (.dK (dV kv))) (nd : (kv.map (·.1)).Nodup) (l : kv.length < 64) (q : ∀ p H', H p = none → Same H H' → H' p = some (.lst (strL (sset (kv.map (·.1))))) → Q (.ref p) H') : oSortD [.ref a] H Q :=
  ⟨a, _, kv.map (·.1), rfl, .inl h, by unfold dV; rw [List.map_map, List.map_map]; rfl, by rw [List.length_map]; exact l, fun ys p hp hs p0 => by
    have e : ys = sset (kv.map (·.1)) := sset_of hs (hp.nodup_iff.mpr nd) fun x => hp.mem_iff
    rw [e]
    exact q p _ p0 (same_new p0) upd_same⟩
theorem r_lenSet (q : ta σ H fun x H1 => ∃ (l : Addr) (ns : List Int), x = .ref l ∧ SqL K H1 l (ns.map V.int) ∧ ns.Nodup ∧ ns.length ≤ 4000 ∧ Q (.int (ns.length : Nat)) H1) : RZ.tLenSetI K ta σ H Q := q
theorem r_neXB {x y : Bool} (q : Q (.bl (x != y)) H) : rNeX K (.bl x) (.bl y) H Q := .inl (r_neB q)
theorem r_eqXB {x y : Bool} (q : Q (.bl (x == y)) H) : rEqX K (.bl x) (.bl y) H Q := .inl (r_eqB q)
theorem ints_eqX {xs ys : List Int} (h : SqL K H a (intL xs)) (h2 : SqL K H b (intL ys)) (q : Q (.bl (decide (xs = ys))) H) : rEqX K (.ref a) (.ref b) H Q := .inr (.inl (ints_eq h h2 q))
theorem ints_neX {xs ys : List Int} (h : SqL K H a (intL xs)) (h2 : SqL K H b (intL ys)) (q : Q (.bl (!decide (xs = ys))) H) : rNeX K (.ref a) (.ref b) H Q := .inr (.inl (ints_ne h h2 q))
theorem r_dclr {kvs : List (Key × V)} (h : H a = some (.dK kvs)) (q : ∀ H', SB a H H' → H' a = some (.dK []) → Q .non H') : rDClear (.ref a) [] H Q := ⟨a, kvs, rfl, rfl, h, q _ sb_upd upd_same⟩
theorem r_lclr {xs : List V} (h : H a = some (.lst xs)) (q : ∀ H', SB a H H' → H' a = some (.lst []) → Q .non H') : rClear (.ref a) [] H Q := ⟨a, xs, rfl, rfl, h, q _ sb_upd upd_same⟩
end
theorem sset_self {rows : List Sd} : sset (sizesM rows) = sizesM rows := (sset_eq (sizes_nd rows) (sset_pw _) fun x => Iff.rfl).symm
/-- the same table, its products not sorted -/
theorem sizes_srow (rows : List Sd) : sizesM (rows.map srow) = sizesM rows := sset_congr fun w => by
  constructor
  · intro h
    obtain ⟨u, hu, hw⟩ := List.mem_flatMap.mp h
    obtain ⟨v, hv, rfl⟩ := List.mem_map.mp hu
    exact List.mem_flatMap.mpr ⟨v, hv, (List.mem_append.mp hw).elim (fun z => List.mem_append_left _ (mem_srt.mp z)) fun z => List.mem_append_right _ (mem_srt.mp z)⟩
  · intro h
    obtain ⟨v, hv, hw⟩ := List.mem_flatMap.mp h
    exact List.mem_flatMap.mpr ⟨srow v, List.mem_map.mpr ⟨v, hv, rfl⟩, (List.mem_append.mp hw).elim (fun z => List.mem_append_left _ (mem_srt.mpr z)) fun z => List.mem_append_right _ (mem_srt.mpr z)⟩
theorem prodF_srt {f : Str → Int} {l : List Str} : prodF f (srt l) = prodF f l := prodF_perm (srt_perm l)
theorem spotL_srow {f : Str → Int} : ∀ {rows : List Sd} {c : List Int}, spotL f (rows.map srow) c = spotL f rows c
  | [], c => rfl
  | r :: rows, [] => rfl
  | r :: rows, x :: c => by
    have i := spotL_srow (f := f) (rows := rows) (c := c)
    unfold spotL at *
    rw [List.map_cons, List.zip_cons_cons, List.zip_cons_cons, List.map_cons, List.map_cons, List.sum_cons, List.sum_cons, i]
    congr 2
    exact prodF_srt
/-- a cell by its list: each index within its size -/
def CellL (f : Str → Int) (rows : List Sd) (cell : List Int) : Prop := cell.length = rows.length ∧ ∀ (i : Nat) (r : Sd) (n : Int), rows[i]? = some r → cell[i]? = some n → 0 ≤ n ∧ n < prodF f r.2.1
theorem cell_l {f : Str → Int} {rows : List Sd} {cell : List Int} (nd : rows.Nodup) (h : Cell f rows cell) : CellL f rows cell := by
  refine ⟨h.1, fun i r n hr hn => ?_⟩
  obtain ⟨hi, rfl⟩ := List.getElem?_eq_some_iff.mp hr
  have := h.2 _ (List.getElem_mem hi)
  unfold cf at this
  rw [idx_get nd hi, hn] at this
  exact this
theorem cell_of_l {f : Str → Int} {rows : List Sd} {cell : List Int} (nd : rows.Nodup) (h : CellL f rows cell) : Cell f rows cell := by
  refine ⟨h.1, fun r hr => ?_⟩
  obtain ⟨i, hi, rfl⟩ := List.mem_iff_getElem.mp hr
  have hc : i < cell.length := by have := h.1; omega
  have := h.2 i _ _ (List.getElem?_eq_getElem hi) (List.getElem?_eq_getElem hc)
  unfold cf
  rw [idx_get nd hi, List.getElem?_eq_getElem hc]
  exact this
theorem cellL_srow {f : Str → Int} {rows : List Sd} {cell : List Int} : CellL f (rows.map srow) cell ↔ CellL f rows cell := by
  unfold CellL
  rw [List.length_map]
  refine and_congr Iff.rfl ⟨fun h i r n hr hn => ?_, fun h i r n hr hn => ?_⟩
  · have := h i (srow r) n (by rw [List.getElem?_map, hr]; rfl) hn
    rwa [show (srow r).2.1 = srt r.2.1 from rfl, prodF_srt] at this
  · rw [List.getElem?_map] at hr
    cases e : rows[i]? with
    | none => rw [e] at hr; cases hr
    | some s =>
      rw [e] at hr
      cases hr
      have := h i s n e hn
      rw [show (srow s).2.1 = srt s.2.1 from rfl, prodF_srt]
      exact this
end CP
namespace CP
open L2 PySem PyProof.Rows
section
variable {H : Hp} {Q : VK} {a : Addr}
theorem r_rep {xs : List V} {k : Int} (h : H a = some (.lst xs)) (h0 : 0 ≤ k) (h1 : k < 2 ^ 63) (hz : xs.length * k.toNat ≤ sizeLine) (q : ∀ p H', H p = none → Same H H' → H' p = some (.lst ((List.replicate k.toNat xs).flatten)) → Q (.ref p) H') : rRep (.ref a) (.int k) H Q :=
  ⟨a, k, xs, rfl, rfl, h, by omega, h1, hz, fun p hp => q p _ hp (same_new hp) upd_same⟩
end
theorem rows_by {rows : List Sd} (h : (rows.isEmpty = false ∧ rows.length ≤ 20 ∧ (rows.all fun r => letB r.1 && r.2.1.all letB && r.2.2.all letB && decide (r.2.1.length ≤ 30) && decide (r.2.2.length ≤ 30)) = true ∧ (rows.map (·.1)).Nodup ∧ (rows.all fun r => (r.2.1 ++ r.2.2).all fun x => decide (x ∉ rows.map (·.1))) = true)) : Rows rows := by
  obtain ⟨h1, h2, h3, h4, h5⟩ := h
  rw [List.all_eq_true] at h3 h5
  have h3' : ∀ r ∈ rows, letB r.1 = true ∧ Lets r.2.1 ∧ Lets r.2.2 := fun r hr => by
    have := h3 r hr
    simp only [Bool.and_eq_true, List.all_eq_true, decide_eq_true_eq] at this
    exact ⟨this.1.1.1.1, ⟨this.1.1.1.2, this.1.2⟩, ⟨this.1.1.2, this.2⟩⟩
  refine ⟨fun z => (by rw [z] at h1; cases h1), h2, fun r hr => (h3' r hr).1, fun r hr => (h3' r hr).2.1, fun r hr => (h3' r hr).2.2, h4, fun r hr x hx => ?_⟩
  have := h5 r hr
  rw [List.all_eq_true] at this
  exact of_decide_eq_true (this x hx)
theorem apart_inr {rows : List Sd} (h : ¬ (rows.filter fun r => decide (r.2.1 ≠ [])).Pairwise Comp) : ∃ u v, orderM (rows.map srow) = .inr (u, v) := by
  cases e : orderM (rows.map srow) with
  | inl fs => exact absurd (order_iff.mp ⟨fs, e⟩) h
  | inr z => exact ⟨z.1, z.2, rfl⟩
theorem low_srow {rows : List Sd} (h : ∀ r ∈ rows, r.2.1.length ≤ 12 ∧ r.2.2.length ≤ 12) : ∀ r ∈ rows.map srow, r.2.1.length ≤ 12 ∧ r.2.2.length ≤ 12 := fun u hu => by
  obtain ⟨v, hv, rfl⟩ := List.mem_map.mp hu
  have := h v hv
  exact ⟨by show (srt v.2.1).length ≤ 12; rw [srt_len]; omega, by show (srt v.2.2).length ≤ 12; rw [srt_len]; omega⟩
theorem sizes_len2 (rows : List Sd) : (sizesM rows).length ≤ (ltrs rows).length := sset_len _
end CP

set_option Elab.async false
set_option linter.all false
set_option maxRecDepth 100000
set_option maxHeartbeats 4000000
set_option autoImplicit false
/-! rows while a purse is drawn from -/
namespace CP
open L2 PySem PyProof.Rows
theorem with_rest {t : TS} {D : Ends} {σ : L2.St} {H : Hp} (P : L2.St → Hp → Prop) (rest : ∀ σ H', P σ H' → D.nx σ H') (main : (∀ σ H', P σ H' → D.nx σ H') → t D σ H) : t D σ H := main rest
section
variable {H H' : Hp} {p : Addr} {x y z : Int}
theorem purse_txt (hp : H p = some (.lst [.int x, .int y, .int z])) {a : Addr} {l : List Str} (h : H a = some (.lst (strL l))) : a ≠ p := fun e => by
  rw [e, hp] at h
  have := Option.some.inj h
  cases l with
  | nil => cases this
  | cons _ _ => cases this
theorem side_sb (hp : H p = some (.lst [.int x, .int y, .int z])) (s : SB p H H') {v : V} {r : Sd} (h : SideAt H v r) : SideAt H' v r := by
  obtain ⟨t, a, b, rfl, h1, h2, h3⟩ := h
  exact ⟨t, a, b, rfl, s _ _ (fun e => by rw [e, hp] at h1; cases h1) h1, s _ _ (purse_txt hp h2) h2, s _ _ (purse_txt hp h3) h3⟩
theorem rows_ne (hp : H p = some (.lst [.int x, .int y, .int z])) {q : Addr} {rows : List Sd} (h : RowsAt H q rows) : q ≠ p := by
  obtain ⟨vs, hq, pr⟩ := h
  intro e
  rw [e, hp] at hq
  cases hq
  cases pr with
  | cons w _ =>
    obtain ⟨t, a, b, e, _⟩ := w
    cases e
theorem rows_sb (hp : H p = some (.lst [.int x, .int y, .int z])) (s : SB p H H') {q : Addr} {rows : List Sd} (h : RowsAt H q rows) : RowsAt H' q rows := by
  have n := rows_ne hp h
  obtain ⟨vs, hq, pr⟩ := h
  exact ⟨vs, s _ _ n hq, pd_mono pr fun _ _ w => side_sb hp s w⟩
theorem tab_sb (hp : H p = some (.lst [.int x, .int y, .int z])) (s : SB p H H') {C o : Addr} {rows : List Sd} (h : TabAt C H o rows) : TabAt C H' o rows := by
  obtain ⟨dx, q, ho, hr⟩ := h
  exact ⟨dx, q, s _ _ (fun e => by rw [e, hp] at ho; cases ho) ho, rows_sb hp s hr⟩
/-- one side exchanged for another -/
theorem rows_set {q t a b : Addr} {rows : List Sd} {vs : List V} {j : Nat} {r : Sd} (hq : H q = some (.lst vs)) (pr : Paired (SideAt H) vs rows) (hj : j < rows.length) (ht : H t = some (.tup [.str r.1, .ref a, .ref b])) (ha : H a = some (.lst (strL r.2.1))) (hb : H b = some (.lst (strL r.2.2)))
    (s : SB q H H') (h' : H' q = some (.lst (vs.set j (.ref t)))) : RowsAt H' q (rows.set j r) := by
  have txt : ∀ {c : Addr} {l : List Str}, H c = some (.lst (strL l)) → c ≠ q := fun {c l} h e => by
    rw [e, hq] at h
    have e2 : vs = strL l := by injection (Option.some.inj h)
    have hv : j < vs.length := by rw [pd_len pr]; exact hj
    obtain ⟨u, hu, z⟩ := pd_get pr (List.getElem?_eq_getElem hv)
    obtain ⟨t2, a2, b2, e3, _⟩ := z
    have m : vs[j] ∈ strL l := by rw [← e2]; exact List.getElem_mem hv
    obtain ⟨k, _, e4⟩ := List.mem_map.mp m
    rw [e3] at e4
    cases e4
  have tup : ∀ {c : Addr} {ws : List V}, H c = some (.tup ws) → c ≠ q := fun {c ws} h e => by
    rw [e, hq] at h
    cases h
  have side : ∀ {v : V} {u : Sd}, SideAt H v u → SideAt H' v u := fun {v u} h => by
    obtain ⟨t2, a2, b2, rfl, h1, h2, h3⟩ := h
    exact ⟨t2, a2, b2, rfl, s _ _ (tup h1) h1, s _ _ (txt h2) h2, s _ _ (txt h3) h3⟩
  refine ⟨_, h', ?_⟩
  have new : SideAt H' (.ref t) r := side ⟨t, a, b, rfl, ht, ha, hb⟩
  clear hq h' txt tup ht ha hb
  induction pr generalizing j with
  | nil => exact absurd hj (Nat.not_lt_zero _)
  | cons w pr ih =>
    cases j with
    | zero => exact .cons new (pd_mono pr fun _ _ z => side z)
    | succ j => exact .cons (side w) (ih (by simpa using hj))
end
theorem Drawn.set {rows : List Sd} (h : Drawn rows) {j : Nat} {r : Sd} (hr : rows[j]? = some r) {l m : List Str} (hl : ∀ w ∈ l, w ∈ r.2.1) (ll : l.length ≤ r.2.1.length) (hm : ∀ w ∈ m, w ∈ r.2.2) (lm : m.length ≤ r.2.2.length) : Drawn (rows.set j (r.1, l, m)) := by
  have rm := List.mem_of_getElem? hr
  have all : ∀ u ∈ rows.set j (r.1, l, m), u ∈ rows ∨ u = (r.1, l, m) := fun u hu => List.mem_or_eq_of_mem_set hu
  refine ⟨fun u hu => ?_, fun u hu => ?_, fun u hu => ?_⟩
  · rcases all u hu with z | rfl
    · exact h.name u z
    · exact h.name r rm
  · rcases all u hu with z | rfl
    · exact h.size u z
    · exact ⟨fun w hw => (h.size r rm).1 w (hl w hw), by have := (h.size r rm).2; show l.length ≤ 3; omega⟩
  · rcases all u hu with z | rfl
    · exact h.step u z
    · exact ⟨fun w hw => (h.step r rm).1 w (hm w hw), by have := (h.step r rm).2; show m.length ≤ 6; omega⟩
theorem names_set {rows : List Sd} {j : Nat} {r : Sd} (hr : rows[j]? = some r) {l m : List Str} : (rows.set j (r.1, l, m)).map (·.1) = rows.map (·.1) := by
  obtain ⟨hj, e⟩ := List.getElem?_eq_some_iff.mp hr
  rw [List.map_set]
  refine List.ext_getElem (by simp) fun i h1 h2 => ?_
  rw [List.getElem_set]
  split
  · rename_i e2
    subst e2
    rw [List.getElem_map, e]
  · rfl
theorem Drawn.perm {rows ss : List Sd} (h : Drawn rows) (p : ss.Perm rows) : Drawn ss := ⟨fun r hr => h.name r (p.mem_iff.mp hr), fun r hr => h.size r (p.mem_iff.mp hr), fun r hr => h.step r (p.mem_iff.mp hr)⟩
/-- a list of sides in another order -/
theorem pd_perm {α β : Type} {R : α → β → Prop} {xs ys : List α} (p : ys.Perm xs) : ∀ {zs : List β}, Paired R xs zs → ∃ ws, Paired R ys ws ∧ ws.Perm zs := by
  induction p with
  | nil => intro zs h; exact ⟨zs, h, .refl _⟩
  | cons x _ ih =>
    intro zs h
    cases h with
    | cons a b =>
      obtain ⟨ws, h1, h2⟩ := ih b
      exact ⟨_ :: ws, .cons a h1, h2.cons _⟩
  | swap x y l =>
    intro zs h
    cases h with
    | cons a b =>
      cases b with
      | cons c d => exact ⟨_ :: _ :: _, .cons c (.cons a d), .swap _ _ _⟩
  | trans _ _ i1 i2 =>
    intro zs h
    obtain ⟨ws, h1, h2⟩ := i2 h
    obtain ⟨us, h3, h4⟩ := i1 h1
    exact ⟨us, h3, h4.trans h2⟩
theorem Drawn.flat {rows : List Sd} (h : Drawn rows) (l : rows.length ≤ 8) : (rows.flatMap fun r => r.2.1).length ≤ 24 := by
  have : ∀ {l : List Sd}, (∀ r ∈ l, r.2.1.length ≤ 3) → (l.flatMap fun r => r.2.1).length ≤ 3 * l.length := by
    intro l
    induction l with
    | nil => intro _; exact Nat.zero_le _
    | cons r l ih =>
      intro hl
      have a := hl r (List.mem_cons_self ..)
      have b := ih fun x hx => hl x (List.mem_cons_of_mem _ hx)
      rw [List.flatMap_cons, List.length_append, List.length_cons]
      omega
  have := this fun r hr => (h.size r hr).2
  omega
theorem sizeW_few {l : List Str} (nd : l.Nodup) (h : ∀ x ∈ l, x ∈ sizeW) : l.length ≤ 8 := List.Nodup.length_le_of_subset nd h
theorem Drawn.sizes {rows : List Sd} (h : Drawn rows) : (sizesM rows).length ≤ 8 := sizeW_few (sizes_nd rows) fun x hx => by
  obtain ⟨r, hr, hw⟩ := List.mem_flatMap.mp (mem_ltrs.mp hx)
  exact (List.mem_append.mp hw).elim ((h.size r hr).1 x) ((h.step r hr).1 x)
end CP
namespace CP
open L2 PySem PyProof.Rows
theorem ints_inj {l m : List Int} (h : l.map V.int = m.map V.int) : l = m := List.map_inj_right (f := V.int) (fun _ _ e => by injection e) |>.mp h
theorem chain_inj {kv : List (Str × Int)} {rows fs : List Sd} (hR : Rows rows) (e : orderM (rows.map srow) = .inl fs) (hk : Small kv (ltrs rows)) : ∀ c1 c2, CellL (atD kv) rows c1 → CellL (atD kv) rows c2 → spotL (atD kv) rows c1 = spotL (atD kv) rows c2 → c1 = c2 := by
  intro c1 c2 h1 h2 es
  obtain ⟨p, q⟩ := order_chain e
  have k1 := cell_of_l hR.srow.nd (cellL_srow.mpr h1)
  have k2 := cell_of_l hR.srow.nd (cellL_srow.mpr h2)
  refine cell_inj hR.srow p q (fun r hr k hk' => ?_) k1 k2 ?_
  · obtain ⟨u, hu, rfl⟩ := List.mem_map.mp hr
    refine hk.f1 u hu k ?_
    rcases List.mem_append.mp hk' with z | z
    · exact List.mem_append_left _ (mem_srt.mp z)
    · exact List.mem_append_right _ (mem_srt.mp z)
  · rw [← spot_eq hR.srow.nd k1.1, ← spot_eq hR.srow.nd k2.1, spotL_srow, spotL_srow]
    exact es
theorem small_of {kv : List (Str × Int)} {rows : List Sd} {m : Int} (kn : (kv.map (·.1)).Nodup) (km : ∀ k, k ∈ kv.map (·.1) ↔ k ∈ sizesM rows) (kb : ∀ u ∈ kv, 1 ≤ u.2 ∧ u.2 ≤ m) (hm : m ≤ 2 ^ 13) : Small kv (ltrs rows) := fun k hk => by
  obtain ⟨u, hu, e⟩ := List.mem_map.mp ((km k).mpr (mem_ltrs.mpr hk))
  have g := getD_mem kn hu
  have b := kb u hu
  subst e
  unfold atD
  rw [g]
  exact ⟨rfl, b.1, Int.le_trans b.2 hm⟩
/-- the products turned about -/
def rrow (r : Sd) : Sd := (r.1, r.2.1.reverse, r.2.2.reverse)
theorem Rows.rrow {rows : List Sd} (h : Rows rows) : Rows (rows.map rrow) := by
  have e : (rows.map CP.rrow).map (·.1) = rows.map (·.1) := by rw [List.map_map]; rfl
  refine ⟨fun z => h.ne (List.map_eq_nil_iff.mp z), by rw [List.length_map]; exact h.few, fun r hr => ?_, fun r hr => ?_, fun r hr => ?_, by rw [e]; exact h.dis, fun r hr x hx => ?_⟩
  · obtain ⟨u, hu, rfl⟩ := List.mem_map.mp hr; exact h.name u hu
  · obtain ⟨u, hu, rfl⟩ := List.mem_map.mp hr; exact (h.size u hu).perm (List.reverse_perm _)
  · obtain ⟨u, hu, rfl⟩ := List.mem_map.mp hr; exact (h.step u hu).perm (List.reverse_perm _)
  · obtain ⟨u, hu, rfl⟩ := List.mem_map.mp hr
    rw [e]
    refine h.out u hu x ?_
    rcases List.mem_append.mp hx with z | z
    · exact List.mem_append_left _ (List.mem_reverse.mp z)
    · exact List.mem_append_right _ (List.mem_reverse.mp z)
theorem srow_rrow (rows : List Sd) : (rows.map rrow).map srow = rows.map srow := by
  rw [List.map_map]
  refine List.map_congr_left fun r _ => ?_
  show (r.1, srt r.2.1.reverse, srt r.2.2.reverse) = (r.1, srt r.2.1, srt r.2.2)
  rw [srt_congr (List.reverse_perm r.2.1), srt_congr (List.reverse_perm r.2.2)]
theorem strL_rev (l : List Str) : (strL l).reverse = strL l.reverse := by unfold strL; rw [List.map_reverse]
end CP

set_option Elab.async false
set_option linter.all false
set_option maxRecDepth 100000
set_option maxHeartbeats 4000000
set_option autoImplicit false
/-! dicts with tuple keys: walked by their values and by their pairs, compared, written -/
namespace CP
open L2 PySem PyProof.Rows
section
variable {X : Cx} {pins : List (Addr × Obj)} {σ : L2.St} {H : Hp} {s : Shared} {d : Addr} {o : Obj} {kvs : List (List Key × V)}
/-- the entries of such a locked dict -/
theorem frz_ents (I : Inv X pins σ H s) (h : H d = some (.frz o (.dT kvs))) : ∃ (es : Array DictEntry) (ep : Nat), o.data = .dict es ep ∧ (d == sysModules) = false ∧ s.heap.DictRaw d es ep ∧ es.size = kvs.length ∧
    ∀ (i : Nat) (k : List Key) (v : V), kvs[i]? = some (k, v) → ∃ (hi : i < es.size) (q : Addr), es[i].key = .ref q ∧ H q = some (.tup (k.map kV)) ∧ RelV v es[i].val := by
  obtain ⟨at_, _, sys, xs, prs, o2, es, ep, at2, ex, dat, ent, _⟩ := I.hok d _ h
  cases at_.symm.trans at2
  have lx := size_of_entries ent
  have lk := Paired.length prs
  refine ⟨es, ep, dat, sys, ⟨o, at_, ex, dat⟩, lx.trans lk.symm, fun i k v hk => ?_⟩
  obtain ⟨⟨k2, q, u⟩, hx, e1, e2, e3⟩ := paired_get prs hk
  have g := entry_at ent i
  rw [hx] at g
  obtain ⟨hi, ge⟩ := Array.getElem?_eq_some_iff.mp g
  exact ⟨hi, q, by rw [ge]; rfl, e2, by rw [ge]; exact e3⟩
end
/-- the values of the locked dict at d -/
def Itv (d : Addr) (o : Obj) (kvs : List (List Key × V)) : It where
  go i H := H d = some (.frz o (.dT kvs)) ∧ i < kvs.length
  yld i H x H' := H' = H ∧ ∃ k, kvs[i]? = some (k, x)
  stop i H := H d = some (.frz o (.dT kvs)) ∧ kvs.length ≤ i
/-- its pairs, each a new tuple of the key's own tuple and the value -/
def Itp (d : Addr) (o : Obj) (kvs : List (List Key × V)) : It where
  go i H := H d = some (.frz o (.dT kvs)) ∧ i < kvs.length
  yld i H x H' := ∃ t k v q, kvs[i]? = some (k, v) ∧ x = .ref t ∧ H t = none ∧ H q = some (.tup (k.map kV)) ∧ H' = upd H t (.tup [.ref q, v])
  stop i H := H d = some (.frz o (.dT kvs)) ∧ kvs.length ≤ i
section
variable {P : Program} {w : World} {K : PySem.W.Frag} {tg : Expr} {d it : Addr} {o : Obj} {es : Array DictEntry} {ep : Nat} {kvs : List (List Key × V)}
theorem turn_v (hod : o.data = .dict es ep) : L2.Turn P w K tg (Itv d o kvs) [it] it (fun i h => h.IsValIter it d i kvs.length ep) where
  mem := List.mem_singleton.mpr rfl
  obj := fun i h st b hb => by
    cases List.mem_singleton.mp hb
    obtain ⟨u, hu, _, hd⟩ := st
    exact ⟨u, hu, fun v z => by rw [hd] at z; cases z⟩
  keep := fun i h h' st k => by
    obtain ⟨u, hu, r⟩ := st
    exact ⟨u, k it (List.mem_singleton.mpr rfl) u hu, r⟩
  item := by
    intro Y eP ew eK calm i pins s σ H E I fr st go
    cases eP; cases ew; cases eK
    obtain ⟨hd, lt⟩ := go
    obtain ⟨g0, g1, g2, g3, g4, g5⟩ := fr it (List.mem_singleton.mpr rfl)
    obtain ⟨es2, ep2, dat, sys, raw, sz, ent⟩ := frz_ents I hd
    cases hod.symm.trans dat
    have hk : kvs[i]? = some (kvs[i].1, kvs[i].2) := List.getElem?_eq_getElem lt
    obtain ⟨hi, q, e1, e2, e3⟩ := ent i _ _ hk
    rw [← sz] at st
    refine wpAny_pyNext_values_item_raw st raw hi fun h2 st2 sb => ?_
    have J : Inv Y pins σ H { s with heap := h2 } := I.turned (t' := s.toks) (fun b u ne e => (sb.2 b ne).trans e) g0 g1 g3 g4 g5
    obtain ⟨u, hu, hc, hdt⟩ := id st2
    rw [sz] at st2
    exact ⟨_, rfl, go_of (s := { s with heap := h2 }) hu hc hdt (by decide) ⟨_, H, J, e3, ⟨rfl, _, hk⟩, st2, fun b hb => (fr b hb).1⟩⟩
  done := by
    intro Y eP ew eK calm i pins s σ H E I fr st go
    cases eP; cases ew; cases eK
    obtain ⟨hd, ge⟩ := go
    obtain ⟨g0, g1, g2, g3, g4, g5⟩ := fr it (List.mem_singleton.mpr rfl)
    obtain ⟨es2, ep2, dat, sys, raw, sz, _⟩ := frz_ents I hd
    cases hod.symm.trans dat
    rw [← sz] at st
    exact wpAny_pyNext_values_end_raw (I.ok.hd calm) st raw (by omega) fun h2 eb => ⟨rfl, I.turned (t' := s.toks) (fun b u ne e => eb b u ne e) g0 g1 g3 g4 g5⟩
  self := fun A i s Q E st h => wpAny_pyIter_valiter st h
theorem turn_p {elts : List Expr} {kk : Nat} {tpos : Pos} (hod : o.data = .dict es ep) : L2.Turn P w K (.Tuple elts kk tpos) (Itp d o kvs) [it] it (fun i h => ∃ ok ov, IsItemIter h it d i kvs.length ep ok ov) where
  mem := List.mem_singleton.mpr rfl
  obj := fun i h st b hb => by
    cases List.mem_singleton.mp hb
    obtain ⟨ok, ov, e⟩ := st
    exact ⟨_, e, fun v z => nomatch z⟩
  keep := fun i h h' st k => by
    obtain ⟨ok, ov, e⟩ := st
    exact ⟨ok, ov, k it (List.mem_singleton.mpr rfl) _ e⟩
  item := by
    intro Y eP ew eK calm i pins s σ H E I fr st go
    cases eP; cases ew; cases eK
    obtain ⟨hd, lt⟩ := go
    obtain ⟨es2, ep2, dat, sys, raw, sz, ent⟩ := frz_ents I hd
    cases hod.symm.trans dat
    have hk : kvs[i]? = some (kvs[i].1, kvs[i].2) := List.getElem?_eq_getElem lt
    obtain ⟨hi, q, e1, e2, e3⟩ := ent i _ _ hk
    obtain ⟨ok, ov, he⟩ := st
    rw [← sz] at he
    have itl : it < s.heap.objs.size := Heap.lt_size he
    refine wpAny_pyNext_items_item_raw he raw hi fun h2 ho hT hz hkp => ?_
    refine ⟨_, rfl, wpAny_letOwnedTupleGo_items (s := { s with heap := h2 }) ho fun h3 he3 sb => ?_⟩
    have hT3 := (sb.2 _ (Nat.ne_of_gt itl)).trans hT
    rw [e1] at hT3
    have new : ObjOk Y.prog Y.w (upd H s.heap.objs.size (.tup [.ref q, kvs[i].2])) h3 s.heap.objs.size (.tup [.ref q, kvs[i].2]) :=
      ⟨(by decide : 2 ≤ sizeLine), [.ref q, es[i].val], .cons (a := .ref q) (b := .ref q) rfl (.cons e3 .nil), ⟨_, hT3, rfl, 0, rfl⟩⟩
    have J : Inv Y pins σ (upd H s.heap.objs.size (.tup [.ref q, kvs[i].2])) { s with heap := h3 } :=
      I.turnedNew (t' := s.toks) (ch := [it]) (fun b u ne e => (sb.2 b fun z => ne (List.mem_singleton.mpr z)).trans (hkp b u (fun z => ne (List.mem_singleton.mpr z)) e)) fr (Nat.le_refl _) new
    refine ⟨.ref s.heap.objs.size, _, J, rfl, ⟨_, kvs[i].1, kvs[i].2, q, hk, rfl, I.hok.fresh (Nat.le_refl _), e2, rfl⟩, ⟨es[i].key, es[i].val, ?_⟩, fun b hb => ?_⟩
    · rw [← sz]; exact he3
    · cases List.mem_singleton.mp hb
      rw [upd_ne (Nat.ne_of_lt itl)]
      exact (fr _ hb).1
  done := by
    intro Y eP ew eK calm i pins s σ H E I fr st go
    cases eP; cases ew; cases eK
    obtain ⟨hd, ge⟩ := go
    obtain ⟨g0, g1, g2, g3, g4, g5⟩ := fr it (List.mem_singleton.mpr rfl)
    obtain ⟨es2, ep2, dat, sys, raw, sz, _⟩ := frz_ents I hd
    cases hod.symm.trans dat
    obtain ⟨ok, ov, he⟩ := st
    rw [← sz] at he
    exact wpAny_pyNext_items_end_raw (I.ok.hd calm) he raw (by omega) fun h2 eb => ⟨rfl, I.turned (t' := s.toks) (fun b u ne e => eb b u ne e) g0 g1 g3 g4 g5⟩
  self := fun A i s Q E st h => by
    obtain ⟨_, _, e⟩ := st
    exact wpAny_pyIter_itemiter e h
end
/-- what d.values(), d.items() ask -/
def iValsT (td : TE) : TI := fun σ H R => td σ H fun x H1 => ∃ d o kvs, x = .ref d ∧ H1 d = some (.frz o (.dT kvs)) ∧ R (Itv d o kvs) H1
def iItemsT (td : TE) : TI := fun σ H R => td σ H fun x H1 => ∃ d o kvs, x = .ref d ∧ H1 d = some (.frz o (.dT kvs)) ∧ R (Itp d o kvs) H1
section
variable {X : Cx} {tg e : Expr} {td : TE} {apos cpos : Pos}
theorem raw_noDict {h : Heap} {d : Addr} {es : Array DictEntry} {ep : Nat} (r : h.DictRaw d es ep) : ∀ b, Value.ref d = .ref b → ∃ ob, h.get? b = some ob ∧ ob.dict = none := by
  rintro b e
  cases e
  obtain ⟨ob, e, c, _⟩ := r
  exact ⟨ob, e, c.2.1⟩
theorem pi_valuesT (he : PE X e td) (hbase : attributeBase e "values" X.env (eval e X.env) = eval e X.env := by rfl) (line : (apos.endLine == cpos.line) = true := by rfl) : PI X tg (.Call (.Attribute e "values" apos) [] [] cpos) (iValsT td) := by
  constructor
  intro pins s σ H R I h
  refine wpAny_Call_method (T := "dict") (id := "dict.values") hbase rfl line F.plainAttrs_dict F.slot_dict_values F.type_dict_values (thn (he.run pins s σ H _ I h) fun u s1 z => ?_)
  obtain ⟨x, H1, J, rx, d, o, kvs, ex, hd, q⟩ := z
  subst ex
  cases (show u = Value.ref d from rx)
  obtain ⟨es, ep, dat, sys, raw, sz, _⟩ := frz_ents J hd
  refine ⟨raw.typeIs, raw_noDict raw, ?_⟩
  have J2 : Inv X pins σ H1 { s1 with heap := s1.heap.push { cls := .type "dict_values", data := .fields #[.ref d] } } := J.kept (t' := s1.toks) fun b ob z => Heap.get?_push_of_some _ z
  have raw2 := raw.at (h' := s1.heap.push { cls := .type "dict_values", data := .fields #[.ref d] }) fun o z => Heap.get?_push_of_some _ z
  have fin : wpAny (model X.prog X.w) X.A (pyIter (.ref s1.heap.objs.size)) (PIE X pins σ tg R) X.xe { s1 with heap := s1.heap.push { cls := .type "dict_values", data := .fields #[.ref d] } } := by
    refine wpAny_pyIter_values_raw (d := d) ⟨_, Heap.get?_push_size _ rfl, rfl, rfl⟩ raw2 (pi_one (tk := s1.toks) J2 _ (turn_v dat) ⟨_, Heap.get?_push_size _ rfl, rfl, ?_⟩ q)
    rw [sz] <;> rfl
  show wpAny _ _ (callWith cpos (.builtin "dict.values") [.ref d] [] []) _ X.xe s1
  exact method_meetsIn F.slot_dict_values F.entry_dict_values rfl (PySem.evalArgs_none ⟨rfl, raw.typeIs, F.args_dict_values_1 _, _, meets_dict_values_raw d sys, ⟨⟨es, ep, raw⟩, fin⟩⟩)
theorem pi_itemsT {elts : List Expr} {kk : Nat} {tpos : Pos} (he : PE X e td) (hbase : attributeBase e "items" X.env (eval e X.env) = eval e X.env := by rfl) (line : (apos.endLine == cpos.line) = true := by rfl) : PI X (.Tuple elts kk tpos) (.Call (.Attribute e "items" apos) [] [] cpos) (iItemsT td) := by
  constructor
  intro pins s σ H R I h
  refine wpAny_Call_method (T := "dict") (id := "dict.items") hbase rfl line F.plainAttrs_dict F.slot_dict_items F.type_dict_items (thn (he.run pins s σ H _ I h) fun u s1 z => ?_)
  obtain ⟨x, H1, J, rx, d, o, kvs, ex, hd, q⟩ := z
  subst ex
  cases (show u = Value.ref d from rx)
  obtain ⟨es, ep, dat, sys, raw, sz, _⟩ := frz_ents J hd
  refine ⟨raw.typeIs, raw_noDict raw, ?_⟩
  have J2 : Inv X pins σ H1 { s1 with heap := s1.heap.push { cls := .type "dict_items", data := .fields #[.ref d] } } := J.kept (t' := s1.toks) fun b ob z => Heap.get?_push_of_some _ z
  have raw2 := raw.at (h' := s1.heap.push { cls := .type "dict_items", data := .fields #[.ref d] }) fun o z => Heap.get?_push_of_some _ z
  have fin : wpAny (model X.prog X.w) X.A (pyIter (.ref s1.heap.objs.size)) (PIE X pins σ (.Tuple elts kk tpos) R) X.xe { s1 with heap := s1.heap.push { cls := .type "dict_items", data := .fields #[.ref d] } } := by
    refine wpAny_pyIter_items_raw (d := d) ⟨_, Heap.get?_push_size _ rfl, rfl, rfl⟩ raw2 (pi_one (tk := s1.toks) J2 _ (turn_p dat) ⟨.none, .none, ?_⟩ q)
    rw [← sz]
    exact Heap.get?_push_size _ rfl
  show wpAny _ _ (callWith cpos (.builtin "dict.items") [.ref d] [] []) _ X.xe s1
  exact method_meetsIn F.slot_dict_items F.entry_dict_items rfl (PySem.evalArgs_none ⟨rfl, raw.typeIs, F.args_dict_items_1 _, _, meets_dict_items_raw d sys, ⟨⟨es, ep, raw⟩, fin⟩⟩)
end
end CP

set_option Elab.async false
set_option linter.all false
set_option maxRecDepth 100000
set_option maxHeartbeats 4000000
set_option autoImplicit false
/-! dict comprehensions whose keys may be tuples: the dict changes as DPut says -/
namespace CP
open L2 PySem PyProof.Rows
section
variable {X : Cx} {pins : List (Addr × Obj)} {σ : L2.St} {H H' : Hp} {s : Shared} {D : Addr} {y v : V} {u r : Value} {E : Value → Shared → Prop} {Q : Unit → Shared → Prop}
theorem dictSet_put (room : X.A.units < cLine) (I : Inv X pins σ H s) (g : DPut H D y v H') (ry : RelV y u) (rv : RelV v r) (h : ∀ s', Inv X pins σ H' s' → Q () s') : wpAny (model X.prog X.w) X.A (dictSet D u r) Q E s := by
  rcases g with ⟨kvs, k, e, ey, l, eH⟩ | ⟨kvs, k, b, e, ey, eb, l, eH⟩
  · cases ey; cases eH
    exact d_dictSet I e l ry rv h
  · cases ey; cases eH
    cases (show u = Value.ref b from ry)
    obtain ⟨few, sys, xs, rel, dd⟩ := dt_of I.hok e
    have few2 : xs.length ≤ sizeLine := by rw [← Paired.length rel]; exact few
    refine wpAny_dictSet_heap (hsz := few2) room (key_of I.hok eb) dd fun h2 dd2 sb => h _ ?_
    obtain ⟨q, es, ep, hq, g2, g3, g4, _, g5⟩ := dd2
    have more : (putK kvs k v).length ≤ sizeLine := by have := length_putK kvs k v; omega
    refine d_write I (by rw [e]; trivial) sb ⟨q, hq⟩ ⟨more, sys, _, (rel.put k eb rv).keeps fun c ys ec => ?_, q, es, ep, hq, g2, g3, g4, g5⟩
    rw [upd_ne fun z => by rw [z, e] at ec; cases ec]
    exact ec
end
/-- an empty dict, of either kind of key -/
inductive Emp : HO → Prop
  | k : Emp (.dK [])
  | t : Emp (.dT [])
theorem Emp.ok {P : Program} {w : World} {H : Hp} {o : HO} (e : Emp o) (h : Heap) (big : sysModules < h.objs.size) : ObjOk P w H (h.push { cls := .type "dict", data := .dict #[] }) h.objs.size o := by
  cases e with
  | k => exact dk_empty h big
  | t => exact dt_empty h big
/-- {k: v for target in iter if ..}: o is the empty dict that D begins as -/
def tDg (o : HO) (wi : TI) (g : TG) (tt : TT) (tk tv : TE) (vs : List Nat) : TE := fun σ H Q => wi σ H fun J H1 => ∀ D, H1 D = none → ∃ W : Nat → Nat → Hp → Prop, (∃ m, W 0 m (upd H1 D o)) ∧ ∀ i m H, W i m H →
  (J.stop i H ∧ Q (.ref D) H) ∨ (J.go i H ∧ ∃ N : Hp → Prop, (∀ H', N H' → ∃ m', m' < m ∧ W (i + 1) m' H') ∧ ∀ x H', J.yld i H x H' → g x (wipe σ vs) H' fun σ2 H2 => wipe σ2 vs = wipe σ vs ∧ tt σ2 H2 fun b H3 =>
    if b = true then tk σ2 H3 fun y H4 => tv σ2 H4 fun z H5 => ∃ H6, DPut H5 D y z H6 ∧ N H6 else N H3)
section
variable {X : Cx}
theorem dg_core {o : HO} {pins : List (Addr × Obj)} {s : Shared} {σ : L2.St} {H : Hp} {Q : VK} {kx vx tg iter : Expr} {ifs : List Expr} {scope : Scope} {own : List (Str × Nat)} {pos pos' : Pos} {wi : TI} {g : TG} {tt : TT} {tk tv : TE} {use : Option (Value → Sem Unit)} {Qf : Value → Shared → Prop}
    (eo : Emp o) (room : X.A.units < cLine) (calm : X.calm = true) (nd : X.N.Nodup) (I : Inv X pins σ H s) (it : PI X tg iter wi) (blk : BlkOk X.N X.env.scope scope own)
    (dg : ∀ (s : Shared) (H : Hp) (C : Addr) (cl : List (Str × Addr)) (fp : List Addr), PG (X.blk s H scope (compEnvC scope cl C X.env) fp) tg g) (dt : ∀ (s : Shared) (H : Hp) (C : Addr) (cl : List (Str × Addr)) (fp : List Addr), PTs (X.blk s H scope (compEnvC scope cl C X.env) fp) ifs tt)
    (dk : ∀ (s : Shared) (H : Hp) (C : Addr) (cl : List (Str × Addr)) (fp : List Addr), PE (X.blk s H scope (compEnvC scope cl C X.env) fp) kx tk)
    (dv : ∀ (s : Shared) (H : Hp) (C : Addr) (cl : List (Str × Addr)) (fp : List Addr), PE (X.blk s H scope (compEnvC scope cl C X.env) fp) vx tv) (fold : ∀ x, foldedSetIterable iter X.env x = pure x)
    (h : tDg o wi g tt tk tv (own.map (·.2)) σ H Q)
    (back : ∀ D C s' m H', Inv X pins σ H' s' → Q (.ref D) H' → s'.heap.Ns C m → FpOk X pins H' C → compPost (model X.prog X.w) X.A X.xe use Qf (.ref D) C (.ok .next) s') :
    wpAny (model X.prog X.w) X.A (comprehension (.DictComp kx vx [⟨tg, iter, ifs, 0⟩] scope pos) scope X.env pos' newDict false (eval iter X.env) use) Qf X.xe s := by
  have free : ∀ y ∈ scope.names, y.2 = .free → ∃ c, X.env.cells.lookup y.1 = some c := fun y hy e => (blk.free y hy e).elim (fun z => I.ok.has _ (.inl z)) fun z => I.ok.has _ (.inr z)
  refine wpAny_comprehension_free (use := use) rfl fold (closure_ok free) blk.kind (fun y hy e => (blk.uniq y hy).trans (by rw [e])) (thn (it.run pins s σ H _ I h) fun xv s1 z1 => thn z1 fun iv s2 z2 => ?_)
  obtain ⟨ia, fp, tn, J, H2, rfl, I2, T, st2, f2, q⟩ := z2
  refine wpAny_newObj_type (newEnv_comp ?_)
  generalize eD : s2.heap.objs.size = D
  have D0 : H2 D = none := I2.hok.fresh (Nat.le_of_eq eD)
  obtain ⟨W, ⟨m0, w0⟩, turn⟩ := q D D0
  generalize e3 : ({ s2 with heap := s2.heap.push { cls := .type "dict", data := .dict #[] } } : Shared) = s3
  have I3 : Inv X pins σ (upd H2 D o) s3 := by
    subst e3
    refine I2.laid (t' := s2.toks) (fun b u z => Heap.get?_push_of_some _ z) (Nat.le_of_eq eD) ?_
    cases eD
    exact eo.ok s2.heap I2.big
  have p3 : s3.heap = s2.heap.push { cls := .type "dict", data := .dict #[] } := by rw [← e3]
  have low : ∀ b ∈ fp, b < s2.heap.objs.size := fun b hb => let ⟨u, z, _⟩ := T.obj _ _ st2 b hb; Heap.lt_size z
  have f3 : ∀ b ∈ fp, FpOk X pins (upd H2 D o) b ∧ b < s3.heap.objs.size := fun b hb => by
    have lt := low b hb
    refine ⟨⟨(upd_ne (by rw [← eD]; exact Nat.ne_of_lt lt)).trans (f2 b hb).1, (f2 b hb).2⟩, ?_⟩
    rw [p3, Heap.size_push]
    exact Nat.lt_succ_of_lt lt
  have st3 : tn 0 s3.heap := T.keep _ _ _ st2 fun b _ u z => by rw [p3]; exact Heap.get?_push_of_some _ z
  have I4 := block_start I3 blk nd f3
  have pg := dg s3 (upd H2 D o) s3.heap.objs.size (cellsFrom (s3.heap.objs.size + 1) scope.names (cloFrom X.env.cells scope.names [])) fp
  have pt := dt s3 (upd H2 D o) s3.heap.objs.size (cellsFrom (s3.heap.objs.size + 1) scope.names (cloFrom X.env.cells scope.names [])) fp
  have pk := dk s3 (upd H2 D o) s3.heap.objs.size (cellsFrom (s3.heap.objs.size + 1) scope.names (cloFrom X.env.cells scope.names [])) fp
  have pv := dv s3 (upd H2 D o) s3.heap.objs.size (cellsFrom (s3.heap.objs.size + 1) scope.names (cloFrom X.env.cells scope.names [])) fp
  show codeAny _ _ (.compStart (.DictComp kx vx [⟨tg, iter, ifs, 0⟩] scope pos) 0 (.ref ia) (.ref D) (compEnvC scope (cellsFrom (s3.heap.objs.size + 1) scope.names (cloFrom X.env.cells scope.names [])) s3.heap.objs.size X.env)) (compPost (model X.prog X.w) X.A X.xe use Qf (.ref D) s3.heap.objs.size) { s3 with heap := pushCells (s3.heap.push { cls := .type "dict", data := .dict #[] }) scope.names }
  have no : ∀ b ∈ fp, (upd H2 D o) b = none := fun b hb => (f3 b hb).1.1
  generalize ece : compEnvC scope (cellsFrom (s3.heap.objs.size + 1) scope.names (cloFrom X.env.cells scope.names [])) s3.heap.objs.size X.env = ce at I4 pg pt pk pv ⊢
  have cl : ce.locals = s3.heap.objs.size := by cases ece; rfl
  generalize eH3 : upd H2 D o = H3 at I3 I4 pg pt pk pv w0 no f3
  generalize e4 : ({ s3 with heap := pushCells (s3.heap.push { cls := .type "dict", data := .dict #[] }) scope.names } : Shared) = s4 at I4 ⊢
  have st4 : tn 0 s4.heap := T.keep _ _ _ st3 fun b _ u z => by rw [← e4]; exact pushCells_keeps _ _ _ _ (Heap.get?_push_of_some _ z)
  have still : ∀ {σ' : L2.St} {H' : Hp} {s' : Shared}, Inv (X.blk s3 H3 scope ce fp) [] σ' H' s' → (∀ b ∈ fp, H' b = none) → ∀ b ∈ fp, FpOk (X.blk s3 H3 scope ce fp) [] H' b := fun {σ' H' s'} K n b hb =>
    ⟨n b hb, (K.ok.exf b hb).1, K.ok.exfs b hb, .inl hb, fun x c z => (K.ok.exf b hb).2 x c z, fun p hp => nomatch (show p ∈ ([] : List (Addr × Obj)) from hp)⟩
  have loop : codeAny (model X.prog X.w) X.A (.compLoop (.DictComp kx vx [⟨tg, iter, ifs, 0⟩] scope pos) 0 (.ref ia) (.ref D) ce) (compPost (model X.prog X.w) X.A X.xe use Qf (.ref D) s3.heap.objs.size) s4 := by
    refine compLoop_anyD (fun n s' => ∃ i H', Inv (X.blk s3 H3 scope ce fp) [] (wipe σ (own.map (·.2))) H' s' ∧ tn i s'.heap ∧ (∀ b ∈ fp, H' b = none) ∧ W i n H') (fun n s5 ⟨i, H5, I5, st5, n5, w5⟩ => ?_) m0 ⟨0, H3, I4, st4, no, w0⟩
    rcases turn i n H5 w5 with ⟨stop, fin⟩ | ⟨go, N, nx, step⟩
    · refine thnF (T.done (X.blk s3 H3 scope ce fp) rfl rfl rfl calm i [] s5 _ H5 (fun _ _ => False) I5 (still I5 n5) st5 stop) fun v s6 z => ?_
      obtain ⟨rfl, I6⟩ := z
      have I7 : Inv X pins σ H5 s6 := I3.call' (ch := fp) I6.os I6.base I6.hok I6.bare fun b hb => let k := (f3 b hb).1; ⟨k.2.2.2.1, k.2.1, k.2.2.2.2.1, k.2.2.2.2.2⟩
      have c0 : H5 s3.heap.objs.size = none := by rw [← cl]; exact I6.free
      obtain ⟨m, ns, _⟩ := I6.loc
      have ns : s6.heap.Ns s3.heap.objs.size m := by rw [← cl]; exact ns
      exact back D s3.heap.objs.size s6 m H5 I7 fin ns (I3.fpOk (Nat.le_refl _) c0)
    · refine thnF (T.item (X.blk s3 H3 scope ce fp) rfl rfl rfl calm i [] s5 _ H5 (fun _ _ => False) I5 (still I5 n5) st5 go) fun v s6 z => ?_
      obtain ⟨u, rfl, z⟩ := z
      refine thnF z fun _ s7 z => ?_
      obtain ⟨x, H7, I7, r7, y7, st7, n7⟩ := z
      have J7 := I7.pinned (still I7 n7) (T.obj _ _ st7)
      refine thnF (pg.run _ s7 _ H7 x u _ J7 r7 (step x H7 y7)) fun _ s8 z => ?_
      obtain ⟨σ8, H8, I8, ew, q8⟩ := z
      refine thnF (pt.run _ s8 σ8 H8 _ I8 q8) fun b s9 z => ?_
      obtain ⟨H9, I9, q9⟩ := z
      have len8 : (wipe σ (own.map (·.2))).length = σ8.length := (congrArg List.length ew.symm).trans (wipe_length ..)
      have end_ : ∀ {s' : Shared} {H' : Hp}, Inv (X.blk s3 H3 scope ce fp) ([] ++ pinsAt fp s7.heap) σ8 H' s' → N H' → ∃ m, m < n ∧ ∃ i H', Inv (X.blk s3 H3 scope ce fp) [] (wipe σ (own.map (·.2))) H' s' ∧ tn i s'.heap ∧ (∀ b ∈ fp, H' b = none) ∧ W i m H' := fun {s' H'} K hN => by
        obtain ⟨m, lt, w⟩ := nx H' hN
        have pin : ∀ b ∈ fp, ∀ u, s7.heap.get? b = some u → s'.heap.get? b = some u ∧ H' b = none := fun b hb u z => by
          obtain ⟨z1, z2, _⟩ := K.pin (b, u) (List.mem_append_right _ (List.mem_append_right _ (mem_pinsAt hb z)))
          exact ⟨z1, z2⟩
        refine ⟨m, lt, i + 1, H', (K.unpinned (pins := [])).weak len8 (fun j v z => (wipe_some (ew ▸ z)).1), T.keep _ _ _ st7 fun b hb u z => (pin b hb u z).1, fun b hb => ?_, w⟩
        obtain ⟨u, z, _⟩ := T.obj _ _ st7 b hb
        exact (pin b hb u z).2
      match b, q9 with
      | false, q9 => exact end_ I9 q9
      | true, q9 =>
        refine thnF (pk.run _ s9 σ8 H9 _ I9 q9) fun ku s10 z => ?_
        obtain ⟨ky, H10, I10, r10, q10⟩ := z
        refine thnF (pv.run _ s10 σ8 H10 _ I10 q10) fun vu s11 z => ?_
        obtain ⟨vy, H11, I11, r11, H12, put, q12⟩ := z
        exact dictSet_put (X := X.blk s3 H3 scope ce fp) room I11 put r10 r11 fun s12 I12 => end_ I12 q12
  exact codeAny_compStart_dict loop (T.self X.A 0 _ _ _ st4 loop)
theorem pe_dg {o : HO} {kx vx tg iter : Expr} {ifs : List Expr} {scope : Scope} {own : List (Str × Nat)} {pos : Pos} {wi : TI} {g : TG} {tt : TT} {tk tv : TE} (eo : Emp o) (room : X.A.units < cLine) (calm : X.calm = true) (nd : X.N.Nodup) (it : PI X tg iter wi) (blk : BlkOk X.N X.env.scope scope own)
    (dg : ∀ (s : Shared) (H : Hp) (C : Addr) (cl : List (Str × Addr)) (fp : List Addr), PG (X.blk s H scope (compEnvC scope cl C X.env) fp) tg g) (dt : ∀ (s : Shared) (H : Hp) (C : Addr) (cl : List (Str × Addr)) (fp : List Addr), PTs (X.blk s H scope (compEnvC scope cl C X.env) fp) ifs tt)
    (dk : ∀ (s : Shared) (H : Hp) (C : Addr) (cl : List (Str × Addr)) (fp : List Addr), PE (X.blk s H scope (compEnvC scope cl C X.env) fp) kx tk)
    (dv : ∀ (s : Shared) (H : Hp) (C : Addr) (cl : List (Str × Addr)) (fp : List Addr), PE (X.blk s H scope (compEnvC scope cl C X.env) fp) vx tv) (fold : ∀ x, foldedSetIterable iter X.env x = pure x := by intro _; rfl) :
    PE X (.DictComp kx vx [⟨tg, iter, ifs, 0⟩] scope pos) (tDg o wi g tt tk tv (own.map (·.2))) := by
  constructor
  intro pins s σ H Q I h
  rw [arm_eval_DictComp]
  refine dg_core eo room calm nd I it blk dg dt dk dv fold h fun D C s' m H' J q ns fo => ⟨m, ns, fun h2 sb => ?_⟩
  obtain ⟨p0, p1, p2, p3, p4, p5⟩ := fo
  exact ⟨.ref D, H', J.turned (t' := s'.toks) (fun b u ne e => (sb.2 b ne).trans e) p0 p1 p3 p4 p5, rfl, q⟩
theorem ps_setDg {o : HO} {i : Nat} {nm : Str} {py : Pos} {kx vx tg iter : Expr} {ifs : List Expr} {scope : Scope} {own : List (Str × Nat)} {pos spos : Pos} {wi : TI} {g : TG} {tt : TT} {tk tv : TE} (eo : Emp o) (room : X.A.units < cLine) (calm : X.calm = true) (nd : X.N.Nodup) (hi : X.N[i]? = some nm)
    (hloc : X.env.scope.names.lookup nm = some .local) (sw : swapsWith (.DictComp kx vx [⟨tg, iter, ifs, 0⟩] scope pos) (some (.Name nm py)) spos.line X.env = pure true) (it : PI X tg iter wi) (blk : BlkOk X.N X.env.scope scope own)
    (dg : ∀ (s : Shared) (H : Hp) (C : Addr) (cl : List (Str × Addr)) (fp : List Addr), PG (X.blk s H scope (compEnvC scope cl C X.env) fp) tg g) (dt : ∀ (s : Shared) (H : Hp) (C : Addr) (cl : List (Str × Addr)) (fp : List Addr), PTs (X.blk s H scope (compEnvC scope cl C X.env) fp) ifs tt)
    (dk : ∀ (s : Shared) (H : Hp) (C : Addr) (cl : List (Str × Addr)) (fp : List Addr), PE (X.blk s H scope (compEnvC scope cl C X.env) fp) kx tk)
    (dv : ∀ (s : Shared) (H : Hp) (C : Addr) (cl : List (Str × Addr)) (fp : List Addr), PE (X.blk s H scope (compEnvC scope cl C X.env) fp) vx tv) (fold : ∀ x, foldedSetIterable iter X.env x = pure x := by intro _; rfl) :
    PS X (.Assign [.Name nm py] (.DictComp kx vx [⟨tg, iter, ifs, 0⟩] scope pos) spos) (tAsg (tDg o wi g tt tk tv (own.map (·.2))) (gName i)) := by
  constructor
  intro pins s σ H En I h
  rw [exec_Assign_Name_used (hs := sw)]
  refine wpAny_bind (wpAny_standAt (wpAny_bind ?_))
  have h : tDg o wi g tt tk tv (own.map (·.2)) σ H (fun x H1 => gName i x σ H1 En.nx) := h
  show wpAny _ X.A (do let _ ← comprehension (.DictComp kx vx [⟨tg, iter, ifs, 0⟩] scope pos) scope X.env (firstIterPos [⟨tg, iter, ifs, 0⟩] pos) newDict false (eval iter X.env) (some (assign (.Name nm py) X.env))) _ _ s
  refine wpAny_bind (thn (dg_core (Qf := fun _ s' => SP X pins En .next s') eo room calm nd I it blk dg dt dk dv fold h ?_) fun _ s' z => wpAny_pure (wpAny_pure z))
  intro D C s' m H' J q ns fo
  obtain ⟨p0, p1, p2, p3, p4, p5⟩ := fo
  refine wpAny_assign_Name (store_ok2 (v := V.ref D) J nd hi (.inl hloc) rfl (fun s2 J2 ⟨a, sb, ha⟩ => ?_) (.inr hloc))
  have ca : C ≠ a := ha.elim (fun z => z ▸ p1) fun z e => p4 nm a z e.symm
  exact ⟨m, ns.sameBut sb ca, fun h3 sb3 => ⟨_, H', J2.turned (t' := s2.toks) (fun b u ne e => (sb3.2 b ne).trans e) p0 p1 p3 p4 p5, q⟩⟩
end
end CP

set_option Elab.async false
set_option linter.all false
set_option maxRecDepth 100000
set_option maxHeartbeats 4000000
set_option autoImplicit false
/-! dicts with tuple keys: one pair written, two compared; the operators of an own class -/
namespace CP
open L2 PySem PyProof.Rows
/-! ### {k: v}, k a tuple -/
def tDispT (tk tv : TE) : TE := fun σ H Q => ∀ p, H p = none → tk σ (upd H p (.dT [])) fun x H1 => tv σ H1 fun y H2 => H2 p = some (.dT []) ∧ ∃ k b, x = .ref b ∧ H2 b = some (.tup (k.map kV)) ∧ Q (.ref p) (upd H2 p (.dT [(k, y)]))
section
variable {X : Cx}
theorem pe_dispT {pos : Pos} {k v : Expr} {tk tv : TE} (room : X.A.units < cLine) (hk : PE X k tk) (hv : PE X v tv) : PE X (.Dict [some k] [v] pos) (tDispT tk tv) := by
  constructor
  intro pins s σ H Q I q
  have n0 := I.hok.fresh (Nat.le_refl s.heap.objs.size)
  have J := I.laid (a := s.heap.objs.size) (o := .dT []) (h' := s.heap.push { cls := .type "dict", data := .dict #[] }) (t' := s.toks) (fun _ _ z => Heap.get?_push_of_some _ z) (Nat.le_refl _) (dt_empty s.heap I.big)
  rw [arm_eval_Dict, zip_pairTrees [some k] [v] X.env pos rfl rfl, dictDisplay_pairs (pairTrees [some k] [v] X.env pos) (fun z => nomatch z) (show 1 < 17 by decide)]
  refine wpAny_bind (wpAny_standAt (wpAny_bind ?_))
  refine wpAny_subDictH (knd := tupleKind (mixKind X.prog X.w)) (Q := fun d s' => wpAny (model X.prog X.w) X.A (pure (Value.ref d)) (EP X pins σ Q) X.xe s') room (show 1 ≤ 15 by decide) ?_
  refine thn ((pps_cons hk hv pps_nil).run pins _ σ _ (fun ps H2 => match ps with
    | [(x, y)] => H2 s.heap.objs.size = some (.dT []) ∧ ∃ k b, x = .ref b ∧ H2 b = some (.tup (k.map kV)) ∧ Q (.ref s.heap.objs.size) (upd H2 s.heap.objs.size (.dT [(k, y)]))
    | _ => False) J (q _ n0)) fun ws s2 z => ?_
  obtain ⟨ps, H2, J2, rel, z⟩ := z
  match ps, ws, rel, z with
  | [(x, y)], [(ku, vu)], .cons rr .nil, ⟨e, key, b, ex, eb, q2⟩ =>
    cases ex
    cases (show ku = Value.ref b from rr.1)
    obtain ⟨few, sys, xs, kt, dd⟩ := dt_of J2.hok e
    cases kt
    refine ⟨[(key, b, vu)], ⟨rfl, rfl, key_of J2.hok eb, trivial⟩, dd, fun h2 tk2 dd2 sb => wpAny_pure ⟨.ref s.heap.objs.size, _, ?_, rfl, q2⟩⟩
    obtain ⟨u, es, ep, hu, g2, g3, g4, _, g5⟩ := dd2
    refine d_write J2 (by rw [e]; trivial) sb ⟨u, hu⟩ ⟨(by decide : 1 ≤ sizeLine), sys, [(key, b, vu)], .cons ⟨rfl, ?_, rr.2⟩ .nil, u, es, ep, hu, g2, g3, g4, g5⟩
    rw [upd_ne fun z => by rw [show b = _ from z, e] at eb; cases eb]
    exact eb
end
/-! ### operators of an own class between two of its instances -/
structure OwnOps (K : PySem.W.Frag) (C : Addr) : Prop where
  first : PySem.W.selfFirst K C = true
  noInt : PySem.W.kitOne K (.ref C) (.type "int") = some false
def rBinO (C : Addr) (sp : Sp) (E : XK) : R2 := fun x y H Q => ∃ a b dx dy fs gs, x = .ref a ∧ y = .ref b ∧ H a = some (.ins C dx fs) ∧ H b = some (.ins C dy gs) ∧ sp [x, y] H (fun v H' => ∃ p, v = .ref p ∧ Q (.ref p) H') E
section
variable {X : Cx} {CX : CXT} {k : Nat} {C f : Addr} {fd : FuncData} {ps : List Str} {sp : Sp} {E : XK} {nm : Str} {op : Operator}
theorem op_binO (en : PySem.dunder op.info.2 = nm) (O : OwnOps X.K C) (M : Meth X.K C nm f) (F : FnOk X.prog X.w X.K X.mg X.base CX k f fd ps sp) (hr : Room (k + 1) X.A) (hb : Binds X.K fd ps []) (hx : Passes CX X E) : OpR X (binaryOp op) (rBinO C sp E) := by
  intro pins s σ H x y v u Q I rx ry h
  obtain ⟨a, b, dx, dy, fs, gs, rfl, rfl, ha, hb', pr⟩ := h
  cases rx
  cases ry
  obtain ⟨mA, J, _⟩ := ins_get I.hok ha
  obtain ⟨mB, J', _⟩ := ins_get I.hok hb'
  obtain ⟨o1, J, _⟩ := J.look
  obtain ⟨o2, J', _⟩ := J'.look
  obtain ⟨m, hF⟩ := I.fr
  cases en
  refine PySem.W.binop_K (op := op) hF I.ok.mod.kin J J'.type O.first M.at_ M.fn ?_
  have hl := F.len _ _ _ _ pr
  have r2 : Vals [V.ref a, V.ref b] [Value.ref a, Value.ref b] := .cons rfl (.cons rfl .nil)
  refine wpAny_call (codeAny_mono (F.run X.A X.stack s H ⟨[.ref a, .ref b], []⟩ [.ref a, .ref b] [.ref a, .ref b] _ E (hr.mono (by omega)) I.env0 (by
    have z := hb s [.ref a, .ref b] I.kIn (by simpa using hl)
    simpa using z) r2 pr) fun r s' z => ?_)
  match r, z with
  | .error e, z => exact hx pins σ H s e s' I z
  | .ok (.ret t), z =>
    obtain ⟨zv, H', I', rz, p, ep, q⟩ := I.after z
    subst ep
    cases rz
    exact ⟨.ref p, H', I', rfl, q⟩
end
/-! ### two dicts with tuple keys and numbers compared -/
/-- the same pairs, in whatever order -/
def sameT (ks ls : List (List Key × V)) : Bool := decide (ks.length = ls.length) && ks.all fun p => decide (valV ls p.1 = some p.2)
section
variable {prog : Program} {w : World} {A : Around} {E : Value → Shared → Prop} {s : Shared}
/-- the values of the first found in the second, one by one -/
inductive HitsT (prog : Program) (w : World) (A : Around) (s : Shared) (kb : List (List Key × Addr × Value)) : List (List Key × Addr × Value) → Bool → Prop
  | nil : HitsT prog w A s kb [] true
  | miss {k : List Key} {p : Addr × Value} {r : List (List Key × Addr × Value)} : atKey kb k = none → HitsT prog w A s kb ((k, p) :: r) false
  | hit {k : List Key} {p q : Addr × Value} {r : List (List Key × Addr × Value)} {e b : Bool} : atKey kb k = some q → SeqAt.EqAt A s p.2 q.2 e → HitsT prog w A s kb r b → HitsT prog w A s kb ((k, p) :: r) (e && b)
theorem samePairsT {nm : String} {a b : Addr} {ka kb : List (List Key × Addr × Value)} {r : Bool} {Q : Bool → Shared → Prop} (room : A.units < cLine) (ha : (a == sysModules) = false) (hb : (b == sysModules) = false)
    (da : s.heap.DictOfH (tupleKind (mixKind prog w)) a ka) (db : s.heap.DictOfH (tupleKind (mixKind prog w)) b kb) (hits : ka.length = kb.length → HitsT prog w A s kb ka r) (h : Q (ka.length == kb.length && r) s) :
    wpAny (model prog w) A (Builtin.Dict.samePairs nm a b) Q E s := by
  obtain ⟨oa, es, ep, ga, _, ta, ea, isa, na⟩ := da
  obtain ⟨ob, fs, eq, gb, _, tb, eb, isb, nb⟩ := db
  have la : es.size = ka.length := size_of_entries ea
  have lb : fs.size = kb.length := size_of_entries eb
  unfold Builtin.Dict.samePairs Builtin.Dict.showsAll
  rw [if_neg (by rw [ha]; decide), if_neg (by rw [hb]; decide)]
  refine wpAny_bind (wpAny_pure (wpAny_bind (wpAny_pure (wpAny_bind (wpAny_dictEntries ga ta ?_)))))
  dsimp only
  refine wpAny_bind (wpAny_dictEntries gb tb ?_)
  by_cases sz : ka.length = kb.length
  · have h2 : Q r s := by simpa [sz] using h
    rw [if_neg (by rw [la, lb, sz]; simp)]
    refine wpAny_bind (wpAny_dictEpoch ga ta (wpAny_bind ?_))
    rw [Std.Legacy.Range.forIn_eq_forIn_range']
    simp only [Std.Legacy.Range.size, Nat.sub_zero, Nat.add_sub_cancel, Nat.div_one]
    refine wpAny_forIn_list _ (fun rest q s' => s' = s ∧ q = (none, ()) ∧ ∃ i, rest = List.range' i (es.size - i) ∧ i ≤ es.size ∧ HitsT prog w A s kb (ka.drop i) r) _ ?_ ?_ _ _ ⟨rfl, rfl, 0, by simp, Nat.zero_le _, hits sz⟩
    · rintro x rest q s' ⟨rfl, rfl, i, er, hi, ht⟩
      have lt : i < es.size := by
        rcases Nat.lt_or_ge i es.size with z | z
        · exact z
        · rw [Nat.sub_eq_zero_of_le z] at er; cases er
      rw [show es.size - i = (es.size - (i + 1)) + 1 by omega, List.range'_succ] at er
      obtain ⟨rfl, rfl⟩ := List.cons.inj er
      obtain ⟨⟨k, p⟩, hk⟩ : ∃ y, ka[x]? = some y := ⟨_, List.getElem?_eq_getElem (by omega)⟩
      have en : es[x]? = some (entryOfKey (tupleKind (mixKind prog w)) (k, p)) := by rw [entry_at ea x, hk]; rfl
      have dr : ka.drop x = (k, p) :: ka.drop (x + 1) := by
        obtain ⟨hx, e⟩ := List.getElem?_eq_some_iff.mp hk
        rw [← e]
        exact List.drop_eq_getElem_cons hx
      rw [dr] at ht
      refine wpAny_bind (wpAny_dictEntries ga ta ?_)
      rw [en]
      show wpAny _ _ (holding [Value.ref p.1, p.2] _ >>= _) _ _ _
      refine wpAny_bind (wpAny_holding (wpAny_bind ?_))
      have key := isa (k, p) (List.mem_of_getElem? hk)
      refine wpAny_dictFind_heap (knd := tupleKind (mixKind prog w)) (xs := kb) room key gb tb eb isb nb (fun none_ => ?_) fun j q hj => ?_
      · have no := atKey_none_of_get none_
        generalize eL : (k, p) :: ka.drop (x + 1) = L at ht
        cases ht with
        | nil => cases eL
        | miss _ =>
          refine wpAny_pure ?_
          show wpAny _ _ (if (!false) = true then _ else _) _ _ _
          rw [if_pos (by decide)]
          exact wpAny_pure (wpAny_pure h2)
        | hit e1 _ _ =>
          cases eL
          rw [no] at e1
          cases e1
      · have yes := atKey_of_get nb hj
        refine wpAny_bind (wpAny_dictEntries gb tb ?_)
        rw [entry_at eb j, hj]
        generalize eL : (k, p) :: ka.drop (x + 1) = L at ht
        cases ht with
        | nil => cases eL
        | miss e1 =>
          cases eL
          rw [yes] at e1
          cases e1
        | @hit _ _ _ _ e b2 e1 e2 e3 =>
          cases eL
          rw [yes] at e1
          cases e1
          refine wpAny_holding (e2 prog w _ _ ?_)
          cases e with
          | false =>
            rw [Bool.false_and] at h2
            show wpAny _ _ (if (!false) = true then _ else _) _ _ _
            rw [if_pos (by decide)]
            exact wpAny_pure (wpAny_pure h2)
          | true =>
            show wpAny _ _ (if (!true) = true then _ else _) _ _ _
            rw [if_neg (by decide)]
            refine wpAny_bind (wpAny_dictEpoch ga ta ?_)
            rw [if_neg (by simp)]
            exact wpAny_pure ⟨rfl, rfl, x + 1, rfl, lt, by rw [Bool.true_and]; exact e3⟩
    · rintro q s' ⟨rfl, rfl, i, er, hi, ht⟩
      have ie : i = es.size := by
        rcases Nat.lt_or_ge i es.size with z | z
        · rw [show es.size - i = (es.size - (i + 1)) + 1 by omega, List.range'_succ] at er; cases er
        · omega
      rw [ie, la, List.drop_length] at ht
      cases ht
      exact wpAny_pure h2
  · rw [if_pos (by rw [la, lb]; simpa using sz)]
    have e : (ka.length == kb.length) = false := by simpa using sz
    rw [e, Bool.false_and] at h
    exact wpAny_bind (wpAny_rule (wpAny_pure h))
theorem eq_dictsT {a b : Addr} {ka kb : List (List Key × Addr × Value)} {r : Bool} {Q : Value → Shared → Prop} (room : A.units + 1 < cLine) (ha : (a == sysModules) = false) (hb : (b == sysModules) = false)
    (da : s.heap.DictOfH (tupleKind (mixKind prog w)) a ka) (db : s.heap.DictOfH (tupleKind (mixKind prog w)) b kb) (hits : ka.length = kb.length → HitsT prog w A.in1 s kb ka r) (h : Q (.bool (ka.length == kb.length && r)) s) :
    wpAny (model prog w) A (compareOp .Eq (.ref a) (.ref b)) Q E s := by
  refine wpAny_richCompare_same_room (op := .Eq) da.typeIs db.typeIs PySem.F.slot_dict_eq (wpAny_call_entry PySem.F.slot_dict_eq da.typeIs PySem.F.entry_dict_eq ?_ (PySem.F.args_dict_eq_2 _ _)) (by omega)
  show wpAny _ _ (Builtin.Dict.dictSlotArgs "__eq__" ⟨[.ref a, .ref b], []⟩ >>= _) _ _ s
  unfold Builtin.Dict.dictSlotArgs
  refine wpAny_bind (wpAny_bind (wpAny_notOrdered_dict da.typeIs ?_))
  show wpAny _ _ (pure (Value.ref a, Value.ref b)) _ _ s
  refine wpAny_pure (wpAny_bind (wpAny_isInstance (T := "dict") db.typeIs PySem.F.sub_dict_dict ?_))
  simp only [Bool.not_true, Bool.false_eq_true, if_false]
  refine wpAny_bind (wpAny_pure (wpAny_bind (wpAny_pure (wpAny_bind (samePairsT (by exact room) ha hb da db hits ?_)))))
  exact wpAny_pure ⟨_, rfl, (fun x => nomatch x), by simpa using h⟩
end
theorem valV_mem {κ : Type} [DecidableEq κ] {kvs : List (κ × V)} {k : κ} {v : V} (h : valV kvs k = some v) : ∃ p ∈ kvs, p.1 = k ∧ p.2 = v := by
  unfold valV at h
  obtain ⟨p, hp, e⟩ := Option.map_eq_some_iff.mp h
  exact ⟨p, List.mem_of_find?_eq_some hp, by simpa using List.find?_some hp, e⟩
/-- numbers under tuple keys -/
def intsT (ks : List (List Key × V)) : Prop := ∀ p ∈ ks, ∃ i, p.2 = .int i
def rEqT : R2 := fun x y H Q => ∃ a b ks ls, x = .ref a ∧ y = .ref b ∧ H a = some (.dT ks) ∧ H b = some (.dT ls) ∧ intsT ks ∧ intsT ls ∧ Q (.bl (sameT ks ls)) H
section
variable {X : Cx}
theorem hits_T {A : Around} {s : Shared} {H Hb : Hp} {ls : List (List Key × V)} {kb : List (List Key × Addr × Value)} (rb : KT Hb ls kb) (il : intsT ls) : ∀ {ks : List (List Key × V)} {ka : List (List Key × Addr × Value)}, KT H ks ka → intsT ks →
    HitsT X.prog X.w A s kb ka (ks.all fun p => decide (valV ls p.1 = some p.2)) := by
  intro ks ka r
  unfold KT at r
  induction r with
  | nil => intro _; exact .nil
  | @cons p q ps qs hd tl ih =>
    intro ik
    obtain ⟨pk, pv⟩ := p
    obtain ⟨qk, qa, qv⟩ := q
    obtain ⟨e1, _, e3⟩ := hd
    obtain rfl : pk = qk := e1
    have ih := ih fun z hz => ik z (List.mem_cons_of_mem _ hz)
    rw [List.all_cons]
    have vv := rb.val pk
    dsimp only at e3 ⊢
    cases e : valV ls pk with
    | none =>
      rw [e] at vv
      have no : atKey kb pk = none := by
        cases z : atKey kb pk with
        | none => rfl
        | some t => rw [z] at vv; exact vv.elim
      rw [show decide ((none : Option V) = some pv) = false from rfl, Bool.false_and]
      exact .miss no
    | some u =>
      rw [e] at vv
      obtain ⟨t, ht, hv⟩ : ∃ t, atKey kb pk = some t ∧ RelV u t.2 := by
        cases z : atKey kb pk with
        | none => rw [z] at vv; exact vv.elim
        | some t => rw [z] at vv; exact ⟨t, rfl, vv⟩
      obtain ⟨i, hi⟩ := ik (pk, pv) (List.mem_cons_self ..)
      obtain ⟨j, hj⟩ : ∃ j, u = .int j := by
        obtain ⟨z, hz, _, ez⟩ := valV_mem e
        obtain ⟨j, hj⟩ := il z hz
        exact ⟨j, by rw [← ez, hj]⟩
      cases hi
      cases hj
      have eqa := eqAt_V (A := A) (s := s) e3 hv rfl rfl
      have ee : decide ((some (V.int j)) = some (V.int i)) = eqV (V.int i) (V.int j) := by
        show _ = decide (i = j)
        by_cases z : i = j
        · rw [decide_eq_true z, decide_eq_true (by rw [z])]
        · rw [decide_eq_false z, decide_eq_false fun y => z (by cases y; rfl)]
      rw [ee]
      exact .hit ht eqa ih
theorem op_eqT (room : X.A.units + 1 < cLine) : OpR X (compareOp .Eq) rEqT := by
  intro pins s σ H x y v u Q I rx ry h
  obtain ⟨a, b, ks, ls, rfl, rfl, ea, eb, ia, ib, q⟩ := h
  cases (show v = Value.ref a from rx)
  cases (show u = Value.ref b from ry)
  obtain ⟨_, ya, va, ra, da⟩ := dt_of I.hok ea
  obtain ⟨_, yb, vb, rb, db⟩ := dt_of I.hok eb
  refine eq_dictsT room ya yb da db (fun _ => hits_T (X := X) rb ib ra ia) (fin_bl I q ?_)
  unfold sameT
  rw [show ks.length = va.length from Paired.length ra, show ls.length = vb.length from Paired.length rb]
  rfl
end
end CP

set_option Elab.async false
set_option linter.all false
set_option maxRecDepth 100000
set_option maxHeartbeats 4000000
set_option autoImplicit false
/-! forms: loops over dicts with tuple keys, forms as objects, their mirrors -/
namespace CP
open L2 PySem PyProof.Rows
section
variable {K : PySem.W.Frag} {d : Addr} {od : Obj} {kvs : List (List Key × V)} {g : TG} {tb : TS} {D : Ends} {σ : L2.St} {H : Hp}
theorem lock_sb {H H1 H' : Hp} {e r : Addr} {u : HO} (at_ : H e = some u) (k : ∀ b o, b ≠ e → H b = some o → H1 b = some o) (s : SB r H1 H') : SB r H (upd H' e u) := fun b o ne z => by
  by_cases be : b = e
  · cases be
    rw [upd_same, ← at_, z]
  · rw [upd_ne be]
    exact s b o ne (k b o be z)
theorem pos_mul {a b : Int} (h : 0 < a ∧ a < 2 ^ 200) (k : 0 < b ∧ b < 2 ^ 200) : 0 < a * b ∧ a * b < 2 ^ 400 := by
  refine ⟨Int.mul_pos h.1 k.1, ?_⟩
  have h1 : a * b < 2 ^ 200 * b := Int.mul_lt_mul_of_pos_right h.2 k.1
  have h2 : (2 : Int) ^ 200 * b < 2 ^ 200 * 2 ^ 200 := Int.mul_lt_mul_of_pos_left k.2 (by decide)
  have h3 : (2 : Int) ^ 200 * 2 ^ 200 = 2 ^ 400 := by rw [← Int.pow_add]
  rw [h3] at h2
  exact Int.lt_trans h1 h2
/-- for k, v in d.items() -/
theorem for_itp (Pv : Nat → L2.St → Hp → Prop) (start : Pv 0 σ H) (stay : ∀ i σ H, i ≤ kvs.length → Pv i σ H → H d = some (.frz od (.dT kvs)))
    (step : ∀ (i : Nat) (k : List Key) (v : V) (t q : Addr) (σ : L2.St) (H H' : Hp), kvs[i]? = some (k, v) → Pv i σ H → H t = none → H q = some (.tup (k.map kV)) → Same H H' → H' t = some (.tup [.ref q, v]) → g (.ref t) σ H' fun σ2 H2 => tb { D with nx := Pv (i + 1), ct := Pv (i + 1), bk := D.nx } σ2 H2) (fin : ∀ σ H, Pv kvs.length σ H → D.nx σ H) :
    ∃ W : Nat → Nat → L2.St → Hp → Prop, (∃ m, W 0 m σ H) ∧ ∀ i m σ H, W i m σ H →
      ((Itp d od kvs).stop i H ∧ D.nx σ H) ∨ ((Itp d od kvs).go i H ∧ ∃ N : L2.St → Hp → Prop, (∀ σ' H', N σ' H' → ∃ m', m' < m ∧ W (i + 1) m' σ' H') ∧ ∀ x H', (Itp d od kvs).yld i H x H' → g x σ H' fun σ2 H2 => tb { D with nx := N, ct := N, bk := D.nx } σ2 H2) := by
  refine ⟨fun i m σ H => m = kvs.length - i ∧ i ≤ kvs.length ∧ Pv i σ H, ⟨_, rfl, Nat.zero_le _, start⟩, fun i m σ H ⟨em, hi, p⟩ => ?_⟩
  subst em
  have at_ := stay i σ H hi p
  rcases Nat.lt_or_ge i kvs.length with lt | ge
  · refine .inr ⟨⟨at_, lt⟩, Pv (i + 1), fun σ' H' p' => ⟨kvs.length - (i + 1), by omega, rfl, lt, p'⟩, fun x H' y => ?_⟩
    obtain ⟨t, k, v, q, hk, rfl, t0, hq, rfl⟩ := y
    exact step i k v t q σ H _ hk p t0 hq (same_new t0) upd_same
  · obtain rfl : i = kvs.length := by omega
    exact .inl ⟨⟨at_, Nat.le_refl _⟩, fin σ H p⟩
/-- for v in d.values() -/
theorem for_itv (Pv : Nat → L2.St → Hp → Prop) (start : Pv 0 σ H) (stay : ∀ i σ H, i ≤ kvs.length → Pv i σ H → H d = some (.frz od (.dT kvs)))
    (step : ∀ i k v σ H, kvs[i]? = some (k, v) → Pv i σ H → g v σ H fun σ2 H2 => tb { D with nx := Pv (i + 1), ct := Pv (i + 1), bk := D.nx } σ2 H2) (fin : ∀ σ H, Pv kvs.length σ H → D.nx σ H) :
    ∃ W : Nat → Nat → L2.St → Hp → Prop, (∃ m, W 0 m σ H) ∧ ∀ i m σ H, W i m σ H →
      ((Itv d od kvs).stop i H ∧ D.nx σ H) ∨ ((Itv d od kvs).go i H ∧ ∃ N : L2.St → Hp → Prop, (∀ σ' H', N σ' H' → ∃ m', m' < m ∧ W (i + 1) m' σ' H') ∧ ∀ x H', (Itv d od kvs).yld i H x H' → g x σ H' fun σ2 H2 => tb { D with nx := N, ct := N, bk := D.nx } σ2 H2) := by
  refine ⟨fun i m σ H => m = kvs.length - i ∧ i ≤ kvs.length ∧ Pv i σ H, ⟨_, rfl, Nat.zero_le _, start⟩, fun i m σ H ⟨em, hi, p⟩ => ?_⟩
  subst em
  have at_ := stay i σ H hi p
  rcases Nat.lt_or_ge i kvs.length with lt | ge
  · refine .inr ⟨⟨at_, lt⟩, Pv (i + 1), fun σ' H' p' => ⟨kvs.length - (i + 1), by omega, rfl, lt, p'⟩, fun x H' y => ?_⟩
    obtain ⟨rfl, k, hk⟩ := y
    exact step i k x σ _ hk p
  · obtain rfl : i = kvs.length := by omega
    exact .inl ⟨⟨at_, Nat.le_refl _⟩, fin σ H p⟩
end
/-- what a comprehension over the pairs has made by turn i -/
def accT (kvs : List (List Key × V)) (ys : List (Option V)) (i : Nat) : List (List Key × V) := ((kvs.zip ys).take i).filterMap fun p => p.2.map fun y => (p.1.1, y)
theorem accT_keys {kvs : List (List Key × V)} {ys : List (Option V)} {i : Nat} {p : List Key × V} (h : p ∈ accT kvs ys i) : ∃ j v, j < i ∧ kvs[j]? = some (p.1, v) := by
  unfold accT at h
  obtain ⟨⟨⟨k, v⟩, o⟩, hm, e⟩ := List.mem_filterMap.mp h
  obtain ⟨y, rfl, rfl⟩ := Option.map_eq_some_iff.mp e
  obtain ⟨j, hj, ej⟩ := List.mem_iff_getElem.mp hm
  have lt : j < i := by rw [List.length_take] at hj; omega
  refine ⟨j, v, lt, ?_⟩
  rw [List.getElem_take] at ej
  have hz : j < (kvs.zip ys).length := by rw [List.length_take] at hj; omega
  rw [List.getElem_zip] at ej
  rw [List.length_zip] at hz
  rw [List.getElem?_eq_getElem (by omega)]
  exact congrArg some (congrArg Prod.fst ej)
theorem accT_len {kvs : List (List Key × V)} {ys : List (Option V)} {i : Nat} : (accT kvs ys i).length ≤ i := by
  unfold accT
  refine Nat.le_trans (List.length_filterMap_le ..) ?_
  rw [List.length_take]
  omega
theorem accT_succ {kvs : List (List Key × V)} {ys : List (Option V)} {i : Nat} {k : List Key} {v : V} {o : Option V} (hk : kvs[i]? = some (k, v)) (ho : ys[i]? = some o) : accT kvs ys (i + 1) = accT kvs ys i ++ (o.map fun y => (k, y)).toList := by
  unfold accT
  have hz : (kvs.zip ys)[i]? = some ((k, v), o) := by
    obtain ⟨h1, e1⟩ := List.getElem?_eq_some_iff.mp hk
    obtain ⟨h2, e2⟩ := List.getElem?_eq_some_iff.mp ho
    rw [List.getElem?_eq_getElem (by rw [List.length_zip]; omega), List.getElem_zip, e1, e2]
  rw [List.take_add_one, hz, List.filterMap_append]
  cases o <;> rfl
section
variable {d : Addr} {od : Obj} {kvs : List (List Key × V)} {g : TG} {tt : TT} {tk tv : TE} {vs : List Nat} {σ : L2.St} {H1 : Hp} {D : Addr} {Qd : Hp → Prop}
/-- {k: .. for k, v in d.items() if ..} -/
theorem dg_itp (ys : List (Option V)) (nd : (kvs.map (·.1)).Nodup) (D0 : H1 D = none) (ha : H1 d = some (.frz od (.dT kvs))) (hl : kvs.length = ys.length) (hz : kvs.length < sizeLine)
    (step : ∀ (i : Nat) (k : List Key) (v : V) (o : Option V) (t q : Addr) (H H2 : Hp) (N : Hp → Prop), kvs[i]? = some (k, v) → ys[i]? = some o → Same H1 H → H t = none → H q = some (.tup (k.map kV)) → Same H H2 → H2 t = some (.tup [.ref q, v]) →
      (o = none → ∀ H', Same H2 H' → N H') → (∀ z, o = some z → ∀ H', Same H2 H' → ∃ H6, DPut H' D (.ref q) z H6 ∧ N H6) →
      g (.ref t) (wipe σ vs) H2 fun σ2 H3 => wipe σ2 vs = wipe σ vs ∧ tt σ2 H3 fun b H4 => if b = true then tk σ2 H4 fun y H5 => tv σ2 H5 fun z H6 => ∃ H7, DPut H6 D y z H7 ∧ N H7 else N H4)
    (fin : ∀ H, Same H1 H → H D = some (.dT (accT kvs ys kvs.length)) → Qd H) :
    ∃ W : Nat → Nat → Hp → Prop, (∃ m, W 0 m (upd H1 D (.dT []))) ∧ ∀ i m H, W i m H →
      ((Itp d od kvs).stop i H ∧ Qd H) ∨ ((Itp d od kvs).go i H ∧ ∃ N : Hp → Prop, (∀ H', N H' → ∃ m', m' < m ∧ W (i + 1) m' H') ∧ ∀ x H', (Itp d od kvs).yld i H x H' → g x (wipe σ vs) H' fun σ2 H2 => wipe σ2 vs = wipe σ vs ∧ tt σ2 H2 fun b H3 =>
        if b = true then tk σ2 H3 fun y H4 => tv σ2 H4 fun z H5 => ∃ H6, DPut H5 D y z H6 ∧ N H6 else N H3) := by
  refine ⟨fun i m H => m = kvs.length - i ∧ i ≤ kvs.length ∧ Same H1 H ∧ H D = some (.dT (accT kvs ys i)), ⟨_, rfl, Nat.zero_le _, same_new D0, upd_same⟩, fun i m H ⟨em, hi, s1, hD⟩ => ?_⟩
  subst em
  have at_ := s1 _ _ ha
  rcases Nat.lt_or_ge i kvs.length with lt | ge
  · refine .inr ⟨⟨at_, lt⟩, fun H => Same H1 H ∧ H D = some (.dT (accT kvs ys (i + 1))), fun H' p => ⟨kvs.length - (i + 1), by omega, rfl, lt, p⟩, fun x H' y => ?_⟩
    obtain ⟨t, k, v, q, hk, rfl, t0, hq, rfl⟩ := y
    obtain ⟨o, ho⟩ : ∃ o, ys[i]? = some o := ⟨_, List.getElem?_eq_getElem (by omega)⟩
    have s2 := same_new (o := .tup [.ref q, v]) t0
    have su := accT_succ hk ho
    refine step i k v o t q H _ _ hk ho s1 t0 hq s2 upd_same (fun e H' s3 => ?_) fun z e H' s3 => ?_
    · subst e
      refine ⟨s1.trans (s2.trans s3), ?_⟩
      rw [su, show ((none : Option V).map fun y => (k, y)).toList = [] from rfl, List.append_nil]
      exact s3 _ _ (s2 _ _ hD)
    · subst e
      have h3 := s3 _ _ (s2 _ _ hD)
      have nk : valV (accT kvs ys i) k = none := by
        cases e : valV (accT kvs ys i) k with
        | none => rfl
        | some u =>
          obtain ⟨p, hp, e1, _⟩ := valV_mem e
          obtain ⟨j, w, jl, hj⟩ := accT_keys hp
          have a1 : (kvs.map (·.1))[j]? = some k := by rw [List.getElem?_map, hj, ← e1]; rfl
          have a2 : (kvs.map (·.1))[i]? = some k := by rw [List.getElem?_map, hk]; rfl
          have := (List.getElem?_inj (List.getElem?_eq_some_iff.mp a1).1 nd).mp (a1.trans a2.symm)
          omega
      have len := accT_len (kvs := kvs) (ys := ys) (i := i)
      refine ⟨_, DPut.t h3 (s3 _ _ (s2 _ _ hq)) (by omega), CP.Same.sb (s1.trans (s2.trans s3)) D0 sb_upd, ?_⟩
      rw [upd_same, putK_new _ nk, su]
      rfl
  · obtain rfl : i = kvs.length := by omega
    exact .inl ⟨⟨at_, Nat.le_refl _⟩, fin H s1 hD⟩
end
/-! ### readings -/
section
variable {K : PySem.W.Frag} {σ : L2.St} {H : Hp} {Q : VK} {d : Addr} {kvs : List (List Key × V)} {t td tk tv : TE} {ts : TS} {D : Ends} {wi : TI} {g : TG} {tt : TT} {vs : List Nat} {o : HO} {R : It → Hp → Prop}
theorem r_lockT (h : H d = some (.dT kvs)) (q : ∀ od H1, H1 d = some (.frz od (.dT kvs)) → (∀ b o, b ≠ d → H b = some o → H1 b = some o) → (∀ H', Same H1 H' → Same H (upd H' d (.dT kvs))) → t σ H1 fun v H' => H' d = some (.frz od (.dT kvs)) ∧ Q v (upd H' d (.dT kvs))) : tLockE t σ H Q :=
  ⟨d, _, h, by trivial, fun od => q od _ upd_same (fun b o ne e => by rw [upd_ne ne]; exact e) fun H' s b o e => by
    by_cases ne : b = d
    · cases ne
      rw [upd_same, ← h, e]
    · rw [upd_ne ne]
      exact s b o (by rw [upd_ne ne]; exact e)⟩
theorem r_lockTS (h : H d = some (.dT kvs)) (q : ∀ od H1, H1 d = some (.frz od (.dT kvs)) → (∀ b o, b ≠ d → H b = some o → H1 b = some o) → (∀ H', Same H1 H' → Same H (upd H' d (.dT kvs))) →
    ts ⟨fun σ' H' => H' d = some (.frz od (.dT kvs)) ∧ D.nx σ' (upd H' d (.dT kvs)), fun v H' => H' d = some (.frz od (.dT kvs)) ∧ D.rt v (upd H' d (.dT kvs)), fun σ' H' => H' d = some (.frz od (.dT kvs)) ∧ D.bk σ' (upd H' d (.dT kvs)), fun σ' H' => H' d = some (.frz od (.dT kvs)) ∧ D.ct σ' (upd H' d (.dT kvs))⟩ σ H1) : tLock ts D σ H :=
  ⟨d, _, h, by trivial, fun od => q od _ upd_same (fun b o ne e => by rw [upd_ne ne]; exact e) fun H' s b o e => by
    by_cases ne : b = d
    · cases ne
      rw [upd_same, ← h, e]
    · rw [upd_ne ne]
      exact s b o (by rw [upd_ne ne]; exact e)⟩
theorem r_iItemsT (q : td σ H fun x H1 => ∃ d o kvs, x = .ref d ∧ H1 d = some (.frz o (.dT kvs)) ∧ R (Itp d o kvs) H1) : iItemsT td σ H R := q
theorem r_iValsT (q : td σ H fun x H1 => ∃ d o kvs, x = .ref d ∧ H1 d = some (.frz o (.dT kvs)) ∧ R (Itv d o kvs) H1) : iValsT td σ H R := q
theorem r_dg (q : wi σ H fun J H1 => ∀ D, H1 D = none → ∃ W : Nat → Nat → Hp → Prop, (∃ m, W 0 m (upd H1 D o)) ∧ ∀ i m H, W i m H →
  (J.stop i H ∧ Q (.ref D) H) ∨ (J.go i H ∧ ∃ N : Hp → Prop, (∀ H', N H' → ∃ m', m' < m ∧ W (i + 1) m' H') ∧ ∀ x H', J.yld i H x H' → g x (wipe σ vs) H' fun σ2 H2 => wipe σ2 vs = wipe σ vs ∧ tt σ2 H2 fun b H3 =>
    if b = true then tk σ2 H3 fun y H4 => tv σ2 H4 fun z H5 => ∃ H6, DPut H5 D y z H6 ∧ N H6 else N H3)) : tDg o wi g tt tk tv vs σ H Q := q
theorem r_dispT (q : ∀ p H1, H p = none → Same H H1 → H1 p = some (.dT []) → tk σ H1 fun x H2 => tv σ H2 fun y H3 => H3 p = some (.dT []) ∧ ∃ k b, x = .ref b ∧ H3 b = some (.tup (k.map kV)) ∧ Q (.ref p) (upd H3 p (.dT [(k, y)]))) : tDispT tk tv σ H Q :=
  fun p p0 => q p _ p0 (same_new p0) upd_same
theorem r_dnewT (q : ∀ p H1, H p = none → Same H H1 → H1 p = some (.dT []) → Q (.ref p) H1) : tDNewT σ H Q := fun p p0 => q p _ p0 (same_new p0) upd_same
end
abbrev oModN : R2 := rI (fun _ j => j ≠ 0) fun i j => .int (i.fmod j)
theorem gcd_fmod {a b : Int} : Int.gcd b (a.fmod b) = Int.gcd a b := by
  have e : a.fmod b = a - b * a.fdiv b := Int.fmod_def a b
  refine Nat.dvd_antisymm ?_ ?_
  · refine Int.ofNat_dvd.mp ?_
    have h1 := Int.gcd_dvd_left (a := b) (b := a.fmod b)
    have h2 := Int.gcd_dvd_right (a := b) (b := a.fmod b)
    refine Int.dvd_coe_gcd ?_ h1
    have h3 : ((Int.gcd b (a.fmod b) : Nat) : Int) ∣ a.fmod b + b * a.fdiv b := Int.dvd_add h2 (Int.dvd_mul_of_dvd_left h1)
    rwa [show a.fmod b + b * a.fdiv b = a by omega] at h3
  · refine Int.ofNat_dvd.mp ?_
    have h1 := Int.gcd_dvd_left (a := a) (b := b)
    have h2 := Int.gcd_dvd_right (a := a) (b := b)
    refine Int.dvd_coe_gcd h2 ?_
    rw [e]
    exact Int.dvd_sub h1 (Int.dvd_mul_of_dvd_left h2)
theorem fmod_less {a b : Int} (h : b ≠ 0) : (a.fmod b).natAbs < b.natAbs := by
  rw [Int.fmod_eq_emod]
  have h1 := Int.emod_nonneg a h
  have h2 := Int.emod_lt a h
  split
  · omega
  · rename_i hn
    have h3 : a % b ≠ 0 := fun z => hn (.inr (Int.dvd_of_emod_eq_zero z))
    omega
/-! ### forms -/
/-- a product of letters with its whole coefficient -/
abbrev Tm := List Str × Int
abbrev Fm := List Tm × Int
def keyT (p : List Str) : List Key := p.map Sum.inr
def rowsT (rs : List Tm) : List (List Key × V) := rs.map fun r => (keyT r.1, V.int r.2)
theorem keyT_V (p : List Str) : (keyT p).map kV = strL p := by unfold keyT strL; rw [List.map_map]; rfl
theorem keyT_inj {p q : List Str} (h : keyT p = keyT q) : p = q := by
  unfold keyT at h
  exact (List.map_inj_right fun a b e => by injection e).mp h
def FormAt (C : Addr) (H : Hp) (o : Addr) (f : Fm) : Prop := ∃ dx d, H o = some (.ins C dx [("rows", .ref d), ("under", .int f.2)]) ∧ H d = some (.dT (rowsT f.1))
theorem FormAt.mono {C : Addr} {H H' : Hp} {o : Addr} {f : Fm} (h : FormAt C H o f) (s : Same H H') : FormAt C H' o f := by
  obtain ⟨dx, d, h1, h2⟩ := h
  exact ⟨dx, d, s _ _ h1, s _ _ h2⟩
/-- a form such as the program makes them -/
structure FOk (f : Fm) : Prop where
  nd : (f.1.map (·.1)).Nodup
  few : f.1.length ≤ 1000
  lets : ∀ r ∈ f.1, (∀ w ∈ r.1, letB w = true) ∧ r.1.length ≤ 1000
  num : ∀ r ∈ f.1, r.2.natAbs < 2 ^ 200
  pos : 0 < f.2 ∧ f.2 < 2 ^ 200
theorem rowsT_get {rs : List Tm} {i : Nat} {k : List Key} {v : V} (h : (rowsT rs)[i]? = some (k, v)) : ∃ r, rs[i]? = some r ∧ k = keyT r.1 ∧ v = .int r.2 := by
  unfold rowsT at h
  rw [List.getElem?_map] at h
  obtain ⟨r, hr, e⟩ := Option.map_eq_some_iff.mp h
  cases e
  exact ⟨r, hr, rfl, rfl⟩
theorem rowsT_len (rs : List Tm) : (rowsT rs).length = rs.length := List.length_map _
theorem rowsT_nd {rs : List Tm} (h : (rs.map (·.1)).Nodup) : ((rowsT rs).map (·.1)).Nodup := by
  unfold rowsT
  rw [List.map_map]
  have e : (rs.map fun r => keyT r.1) = (rs.map (·.1)).map keyT := by rw [List.map_map]; rfl
  show (rs.map fun r => keyT r.1).Nodup
  rw [e]
  exact List.Pairwise.map _ (fun a b ne z => ne (keyT_inj z)) h
theorem rowsT_ints (rs : List Tm) : intsT (rowsT rs) := fun p hp => by
  obtain ⟨r, _, rfl⟩ := List.mem_map.mp hp
  exact ⟨r.2, rfl⟩
end CP

set_option Elab.async false
set_option linter.all false
set_option maxRecDepth 100000
set_option maxHeartbeats 4000000
set_option autoImplicit false
/-! what the operations of forms compute -/
namespace CP
open L2 PySem PyProof.Rows
def keptM (rs : List Tm) : List Tm := rs.filter fun r => decide (r.2 ≠ 0)
def divM (rs : List Tm) (u : Int) : Int := rs.foldl (fun g r => (Int.gcd g r.2 : Nat)) u
def madeM (rs : List Tm) (u : Int) : Fm := ((keptM rs).map fun r => (r.1, r.2 / divM (keptM rs) u), u / divM (keptM rs) u)
theorem divM_pos {rs : List Tm} {u : Int} (h : 0 < u) : 0 < divM rs u ∧ divM rs u ≤ u := by
  unfold divM
  induction rs generalizing u with
  | nil => exact ⟨h, Int.le_refl _⟩
  | cons r rs ih =>
    rw [List.foldl_cons]
    have g0 : 0 < Int.gcd u r.2 := Int.gcd_pos_of_ne_zero_left _ (by omega)
    have g1 : ((Int.gcd u r.2 : Nat) : Int) ≤ u := Int.le_of_dvd h (Int.gcd_dvd_left ..)
    obtain ⟨a, b⟩ := ih (u := ((Int.gcd u r.2 : Nat) : Int)) (by omega)
    exact ⟨a, Int.le_trans b g1⟩
/-- what a comprehension over a form's rows makes -/
theorem acc_rows (g : Tm → Option Int) (rs : List Tm) : accT (rowsT rs) (rs.map fun r => (g r).map V.int) (rowsT rs).length = rowsT (rs.filterMap fun r => (g r).map fun n => (r.1, n)) := by
  unfold accT
  rw [List.take_of_length_le (by rw [List.length_zip]; omega)]
  induction rs with
  | nil => rfl
  | cons r rs ih =>
    show List.filterMap _ (((keyT r.1, V.int r.2), (g r).map V.int) :: (rowsT rs).zip _) = _
    rw [List.filterMap_cons, List.filterMap_cons]
    cases e : g r with
    | none => exact ih
    | some n =>
      show (keyT r.1, V.int n) :: _ = rowsT ((r.1, n) :: _)
      rw [ih]
      rfl
theorem kept_eq (rs : List Tm) : (rs.filterMap fun r => (if r.2 = 0 then none else some r.2).map fun n => (r.1, n)) = keptM rs := by
  unfold keptM
  induction rs with
  | nil => rfl
  | cons r rs ih =>
    rw [List.filterMap_cons, List.filter_cons]
    by_cases e : r.2 = 0
    · rw [if_pos e, if_neg (by simpa using e)]
      exact ih
    · rw [if_neg e, if_pos (by simpa using e)]
      show (r.1, r.2) :: _ = _
      rw [ih]
theorem div_eq (g : Int) (rs : List Tm) : (rs.filterMap fun r => (some (r.2 / g)).map fun n => (r.1, n)) = rs.map fun r => (r.1, r.2 / g) := by
  induction rs with
  | nil => rfl
  | cons r rs ih => rw [List.filterMap_cons, List.map_cons, ← ih]; rfl
theorem kept_nd {rs : List Tm} (nd : (rs.map (·.1)).Nodup) : ((keptM rs).map (·.1)).Nodup := nd.sublist ((List.filter_sublist ..).map _)
theorem kept_len (rs : List Tm) : (keptM rs).length ≤ rs.length := List.length_filter_le ..
theorem divM_succ {rs : List Tm} {u : Int} {i : Nat} {r : Tm} (h : rs[i]? = some r) : divM (rs.take (i + 1)) u = (Int.gcd (divM (rs.take i) u) r.2 : Nat) := by
  unfold divM
  rw [List.take_add_one, h, List.foldl_append]
  rfl
/-- a product's coefficient, 0 if it is not there -/
def getT : List Tm → List Str → Int
  | [], _ => 0
  | r :: rs, p => if r.1 = p then r.2 else getT rs p
def putT : List Tm → List Str → Int → List Tm
  | [], p, n => [(p, n)]
  | r :: rs, p, n => if r.1 = p then (p, n) :: rs else r :: putT rs p n
theorem getT_val (rs : List Tm) (p : List Str) : (valV (rowsT rs) (keyT p)).getD (.int 0) = .int (getT rs p) := by
  induction rs with
  | nil => rfl
  | cons r rs ih =>
    unfold getT
    show (valV ((keyT r.1, V.int r.2) :: rowsT rs) (keyT p)).getD _ = _
    by_cases e : r.1 = p
    · rw [valV_pos (by rw [e]), if_pos e]; rfl
    · rw [valV_neg (fun z => e (keyT_inj z)), if_neg e]; exact ih
theorem putT_keys_mem {rs : List Tm} {p q : List Str} {n : Int} (h : q ∈ (putT rs p n).map (·.1)) : q ∈ rs.map (·.1) ∨ q = p := by
  induction rs with
  | nil => exact .inr (List.mem_singleton.mp h)
  | cons r rs ih =>
    unfold putT at h
    split at h
    · rename_i e
      rcases List.mem_cons.mp h with z | z
      · exact .inr z
      · exact .inl (List.mem_cons_of_mem _ z)
    · rcases List.mem_cons.mp h with z | z
      · exact .inl (by rw [z]; exact List.mem_cons_self ..)
      · exact (ih z).imp (fun z => List.mem_cons_of_mem _ z) id
theorem putT_nd {rs : List Tm} {p : List Str} {n : Int} (nd : (rs.map (·.1)).Nodup) : ((putT rs p n).map (·.1)).Nodup := by
  induction rs with
  | nil => simp [putT]
  | cons r rs ih =>
    rw [List.map_cons, List.nodup_cons] at nd
    unfold putT
    split
    · rename_i e
      rw [List.map_cons, List.nodup_cons, ← e]
      exact nd
    · rename_i e
      rw [List.map_cons, List.nodup_cons]
      refine ⟨fun h => ?_, ih nd.2⟩
      rcases putT_keys_mem h with z | z
      · exact nd.1 z
      · exact e z
theorem putT_len (rs : List Tm) (p : List Str) (n : Int) : (putT rs p n).length ≤ rs.length + 1 := by
  induction rs with
  | nil => exact Nat.le_refl _
  | cons r rs ih =>
    unfold putT
    split <;> simp only [List.length_cons] <;> omega
theorem putT_val {rs : List Tm} {p : List Str} {n : Int} (nd : (rs.map (·.1)).Nodup) : putK (rowsT rs) (keyT p) (.int n) = rowsT (putT rs p n) := by
  unfold putK
  by_cases h : p ∈ rs.map (·.1)
  · have ha : ((rowsT rs).any fun kv => decide (kv.1 = keyT p)) = true := by
      obtain ⟨r, hr, e⟩ := List.mem_map.mp h
      exact List.any_eq_true.mpr ⟨(keyT r.1, .int r.2), List.mem_map.mpr ⟨r, hr, rfl⟩, by rw [e]; exact decide_eq_true rfl⟩
    rw [if_pos ha]
    clear ha
    induction rs with
    | nil => cases h
    | cons r rs ih =>
      rw [List.map_cons, List.nodup_cons] at nd
      unfold putT
      by_cases e : r.1 = p
      · rw [if_pos e]
        show _ :: _ = _ :: _
        congr 1
        · show (if keyT r.1 = keyT p then (keyT r.1, V.int n) else (keyT r.1, V.int r.2)) = (keyT p, V.int n)
          rw [e, if_pos rfl]
        · show (rowsT rs).map _ = rowsT rs
          conv => rhs; rw [← List.map_id (rowsT rs)]
          refine List.map_congr_left fun q hq => ?_
          obtain ⟨u, hu, rfl⟩ := List.mem_map.mp hq
          rw [if_neg fun z => nd.1 (by rw [e, ← keyT_inj z]; exact List.mem_map.mpr ⟨u, hu, rfl⟩)]
          rfl
      · rw [if_neg e]
        show _ :: _ = _ :: _
        congr 1
        · show (if keyT r.1 = keyT p then (keyT r.1, V.int n) else (keyT r.1, V.int r.2)) = (keyT r.1, V.int r.2)
          rw [if_neg fun z => e (keyT_inj z)]
        · exact ih nd.2 ((List.mem_cons.mp h).resolve_left fun z => e z.symm)
  · have ha : ¬ ((rowsT rs).any fun kv => decide (kv.1 = keyT p)) = true := fun z => by
      obtain ⟨q, hq, e⟩ := List.any_eq_true.mp z
      obtain ⟨u, hu, rfl⟩ := List.mem_map.mp hq
      exact h (by rw [← keyT_inj (of_decide_eq_true e)]; exact List.mem_map.mpr ⟨u, hu, rfl⟩)
    rw [if_neg ha]
    clear ha nd
    induction rs with
    | nil => rfl
    | cons r rs ih =>
      unfold putT
      rw [if_neg fun z => h (by rw [← z]; exact List.mem_cons_self ..)]
      show _ :: _ = _ :: _
      congr 1
      exact ih fun z => h (List.mem_cons_of_mem _ z)
/-- one term times one term, added -/
def mulStep (a : Tm) (acc : List Tm) (b : Tm) : List Tm := putT acc (srt (a.1 ++ b.1)) (getT acc (srt (a.1 ++ b.1)) + a.2 * b.2)
def mulRow (gs : List Tm) (acc : List Tm) (a : Tm) : List Tm := gs.foldl (mulStep a) acc
def mulR (fs gs : List Tm) : List Tm := fs.foldl (mulRow gs) []
def mulM (f g : Fm) : Fm := madeM (mulR f.1 g.1) (f.2 * g.2)
theorem mulStep_nd {a b : Tm} {acc : List Tm} (nd : (acc.map (·.1)).Nodup) : ((mulStep a acc b).map (·.1)).Nodup := putT_nd nd
theorem mulStep_len {a b : Tm} {acc : List Tm} : (mulStep a acc b).length ≤ acc.length + 1 := putT_len ..
theorem mulRow_nd {gs : List Tm} {a : Tm} : ∀ {acc : List Tm}, (acc.map (·.1)).Nodup → ((mulRow gs acc a).map (·.1)).Nodup := by
  unfold mulRow
  induction gs with
  | nil => exact fun h => h
  | cons g gs ih => exact fun h => ih (mulStep_nd h)
theorem mulRow_len {gs : List Tm} {a : Tm} : ∀ {acc : List Tm}, (mulRow gs acc a).length ≤ acc.length + gs.length := by
  unfold mulRow
  induction gs with
  | nil => exact Nat.le_refl _
  | cons g gs ih =>
    intro acc
    have h1 := ih (acc := mulStep a acc g)
    have h2 := mulStep_len (a := a) (b := g) (acc := acc)
    rw [List.foldl_cons, List.length_cons]
    omega
theorem mulR_ok {gs : List Tm} : ∀ {fs acc : List Tm}, (acc.map (·.1)).Nodup → ((fs.foldl (mulRow gs) acc).map (·.1)).Nodup ∧ (fs.foldl (mulRow gs) acc).length ≤ acc.length + fs.length * gs.length := by
  intro fs
  induction fs with
  | nil => intro acc h; exact ⟨h, by simp⟩
  | cons f fs ih =>
    intro acc h
    obtain ⟨a, b⟩ := ih (mulRow_nd (gs := gs) (a := f) h)
    have := mulRow_len (gs := gs) (a := f) (acc := acc)
    refine ⟨a, ?_⟩
    rw [List.foldl_cons, List.length_cons, Nat.succ_mul]
    omega
/-! ### the letters of a form -/
def addN (l : List Str) (w : Str) : List Str := if w ∈ l then l else l ++ [w]
def trueK (l : List Str) : List (Key × V) := l.map fun w => (Sum.inr w, V.bl true)
theorem addN_mem {l : List Str} {w x : Str} : x ∈ addN l w ↔ x ∈ l ∨ x = w := by
  unfold addN
  split
  · rename_i h
    exact ⟨.inl, fun z => z.elim id fun e => e ▸ h⟩
  · rw [List.mem_append, List.mem_singleton]
theorem addN_nd {l : List Str} {w : Str} (nd : l.Nodup) : (addN l w).Nodup := by
  unfold addN
  split
  · exact nd
  · rename_i h
    exact List.nodup_append.mpr ⟨nd, by simp, fun x hx y hy e => h (by rw [List.mem_singleton.mp hy] at e; exact e ▸ hx)⟩
theorem trueK_put {l : List Str} {w : Str} : putK (trueK l) (Sum.inr w) (.bl true) = trueK (addN l w) := by
  have ea : ((trueK l).any fun kv => decide (kv.1 = (Sum.inr w : Key))) = decide (w ∈ l) := by
    unfold trueK
    rw [List.any_map]
    induction l with
    | nil => rfl
    | cons x l ih =>
      rw [List.any_cons, ih]
      show (decide ((Sum.inr x : Key) = Sum.inr w) || _) = _
      by_cases e : x = w
      · subst e; simp
      · rw [decide_eq_false fun z => e (by injection z)]
        simp [Ne.symm e]
  unfold putK addN
  rw [ea]
  by_cases h : w ∈ l
  · rw [if_pos (decide_eq_true h), if_pos h]
    unfold trueK
    rw [List.map_map]
    refine List.map_congr_left fun x _ => ?_
    show (if (Sum.inr x : Key) = Sum.inr w then ((Sum.inr x : Key), V.bl true) else (Sum.inr x, V.bl true)) = _
    split <;> rfl
  · rw [if_neg (by simpa using h), if_neg h]
    unfold trueK
    rw [List.map_append]
    rfl
theorem adds_mem {m : List Str} {x : Str} : ∀ {l : List Str}, x ∈ m.foldl addN l ↔ x ∈ l ∨ x ∈ m := by
  induction m with
  | nil => intro l; simp
  | cons w m ih =>
    intro l
    rw [List.foldl_cons, ih, addN_mem, List.mem_cons, or_assoc]
theorem adds_nd {m : List Str} : ∀ {l : List Str}, l.Nodup → (m.foldl addN l).Nodup := by
  induction m with
  | nil => exact fun h => h
  | cons w m ih => exact fun h => ih (addN_nd h)
def namesM (rs : List Tm) : List Str := rs.foldl (fun acc r => r.1.foldl addN acc) []
theorem names_ok (rs : List Tm) : (namesM rs).Nodup ∧ ∀ x, x ∈ namesM rs ↔ x ∈ rs.flatMap fun r => r.1 := by
  suffices z : ∀ (rs : List Tm) (l : List Str), l.Nodup → (rs.foldl (fun acc r => r.1.foldl addN acc) l).Nodup ∧ ∀ x, x ∈ rs.foldl (fun acc r => r.1.foldl addN acc) l ↔ x ∈ l ∨ x ∈ rs.flatMap fun r => r.1 by
    obtain ⟨a, b⟩ := z rs [] (by simp)
    exact ⟨a, fun x => (b x).trans (by simp)⟩
  intro rs
  induction rs with
  | nil => intro l h; exact ⟨h, fun x => by simp⟩
  | cons r rs ih =>
    intro l h
    obtain ⟨a, b⟩ := ih _ (adds_nd (m := r.1) h)
    refine ⟨a, fun x => ?_⟩
    rw [List.foldl_cons, b, adds_mem, List.flatMap_cons, List.mem_append, or_assoc]
theorem adds_len {m : List Str} : ∀ {l : List Str}, (m.foldl addN l).length ≤ l.length + m.length := by
  induction m with
  | nil => exact Nat.le_refl _
  | cons w m ih =>
    intro l
    have h1 := ih (l := addN l w)
    have h2 : (addN l w).length ≤ l.length + 1 := by
      unfold addN
      split
      · omega
      · rw [List.length_append]; simp
    rw [List.foldl_cons, List.length_cons]
    omega
theorem names_len {rs : List Tm} (h : ∀ r ∈ rs, r.1.length ≤ 1000) : (namesM rs).length ≤ 1000 * rs.length := by
  suffices z : ∀ (rs : List Tm) (l : List Str), (∀ r ∈ rs, r.1.length ≤ 1000) → (rs.foldl (fun acc r => r.1.foldl addN acc) l).length ≤ l.length + 1000 * rs.length by
    have := z rs [] h
    simp only [List.length_nil] at this
    unfold namesM
    omega
  intro rs
  induction rs with
  | nil => intro l _; simp
  | cons r rs ih =>
    intro l h
    have h1 := ih (r.1.foldl addN l) fun x hx => h x (List.mem_cons_of_mem _ hx)
    have h2 := adds_len (m := r.1) (l := l)
    have h3 := h r (List.mem_cons_self ..)
    rw [List.foldl_cons, List.length_cons]
    omega
theorem names_srt (rs : List Tm) : srt (namesM rs) = sset (rs.flatMap fun r => r.1) := by
  obtain ⟨a, b⟩ := names_ok rs
  exact sset_eq ((srt_perm _).nodup_iff.mpr a) (srt_pw _) fun x => mem_srt.trans (b x)
/-! ### one product alone -/
def monoM (l : List Str) : Fm := ([(srt l, 1)], 1)
theorem made_mono (p : List Str) : madeM [(p, 1)] 1 = ([(p, 1)], 1) := by
  have e : [((p, 1) : Tm)].filter (fun r => decide (r.2 ≠ 0)) = [(p, 1)] := by simp
  unfold madeM keptM divM
  rw [e]
  show ([(p, 1 / ((Int.gcd 1 1 : Nat) : Int))], 1 / ((Int.gcd 1 1 : Nat) : Int)) = _
  rw [show Int.gcd 1 1 = 1 by decide]
  rfl
theorem mono_mul (l m : List Str) : mulM (monoM l) (monoM m) = monoM (l ++ m) := by
  unfold mulM monoM
  show madeM [(srt (srt l ++ srt m), 0 + 1 * 1)] (1 * 1) = _
  rw [show srt (srt l ++ srt m) = srt (l ++ m) from srt_congr ((srt_perm l).append (srt_perm m))]
  exact made_mono _
end CP

set_option Elab.async false
set_option linter.all false
set_option maxRecDepth 100000
set_option maxHeartbeats 4000000
set_option autoImplicit false
/-! sorted(t), tuple(l) of texts -/
namespace CP
open L2 PySem PyProof.Rows
section
variable {prog : Program} {w : World} {A : Around} {E : Value → Shared → Prop} {s : Shared}
theorem collect_tup {t : Addr} {its : List Value} {Q : List Value → Shared → Prop} (ht : IsTup s.heap t its.toArray) (few : its.length ≤ sizeLine)
    (h : Q its { s with heap := (s.heap.push (seqObj "list" #[] 0)).update s.heap.objs.size (Obj.mapSeq (· ++ its.toArray)) }) : wpAny (model prog w) A (collect (.ref t)) Q E s := by
  obtain ⟨u, hu, cls, n, dat⟩ := ht
  unfold collect
  refine wpAny_bind (wpAny_runValue (codeAny_builtin entry_proto_collect' ?_))
  show wpAny _ _ (do again (.builtin "list.__iadd__" ⟨[← newList [], .ref t], []⟩)) _ _ s
  refine wpAny_bind (wpAny_newList (wpAny_pure ⟨Code.quiet_builtin _ (by decide +kernel), codeAny_builtin entry_list_iadd' ?_⟩))
  show wpAny _ _ (Builtin.List.listExtendWith (.ref s.heap.objs.size) (.ref t) (.ref s.heap.objs.size)) _ _ { s with heap := s.heap.push (seqObj "list" #[] 0) }
  unfold Builtin.List.listExtendWith
  have hu2 : (s.heap.push (seqObj "list" #[] 0)).get? t = some u := Heap.get?_push_of_some _ hu
  refine wpAny_bind (wpAny_typeOf (T := "tuple") ⟨u, hu2, cls⟩ ?_)
  rw [if_pos (by rw [show (Value.type "tuple" == Value.type "tuple") = true from rfl, Bool.or_true])]
  refine wpAny_bind (listItems_at hu2 dat (wpAny_bind (listItems_at (xs := #[]) (n := 0) (Heap.get?_push_size _ rfl) rfl ?_)))
  rw [if_neg (by simp)]
  have fits : (#[] ++ its.toArray : Array Value).size ≤ sizeLine + 1 := by
    simp only [Array.size_append, List.size_toArray, List.length_nil]
    omega
  refine wpAny_bind (listUpdate_at (xs := #[]) (n := 0) (Heap.get?_push_size _ rfl) rfl ?_ (Nat.zero_le _) fits)
  refine wpAny_pure ?_
  show wpAny (model prog w) A (do
      let o ← load s.heap.objs.size
      match o.data with
      | .seq xs _ => pure xs.toList
      | _ => unsupported "internal:collect") Q E { s with heap := (s.heap.push (seqObj "list" #[] 0)).update s.heap.objs.size (Obj.mapSeq (· ++ its.toArray)) }
  refine wpAny_bind (wpAny_load (get?_update_seq (Heap.get?_push_size _ rfl) _) ?_)
  show wpAny _ _ (pure ((#[] : Array Value) ++ its.toArray).toList) Q E _
  rw [show ((#[] : Array Value) ++ its.toArray).toList = its by simp]
  exact wpAny_pure h
theorem sorted_tup {t : Addr} {its : List Value} {ss : List Str} {Q : Value → Shared → Prop} (ht : IsTup s.heap t its.toArray) (hS : StrsAre its ss) (few : its.length ≤ sizeLine)
    (h : ∀ (out : Array Value) (qs : List Str), StrsAre out.toList qs → qs.Perm ss → sortedS qs = true → Q (.ref (s.heap.objs.size + 1)) { s with heap := sortedAll s.heap its out }) : wpAny (model prog w) A (call (.builtin "sorted") [.ref t]) Q E s := by
  refine Calls.call_function_entry kind_sorted plain_sorted entry_sorted (args_sorted1 _) ?_
  unfold Builtin.«sorted»
  refine wpAny_bind (m := checkCount "sorted" 1 1 _) (wpAny_pure (wpAny_bind (collect_tup ht few (wpAny_bind (wpAny_newList ?_ few)))))
  have sz : ((s.heap.push (seqObj "list" #[] 0)).update s.heap.objs.size (Obj.mapSeq (· ++ its.toArray))).objs.size = s.heap.objs.size + 1 := (Heap.size_update ..).trans (size_push' ..)
  have at_ : (((s.heap.push (seqObj "list" #[] 0)).update s.heap.objs.size (Obj.mapSeq (· ++ its.toArray))).push (seqObj "list" its.toArray 0)).get? (s.heap.objs.size + 1) = some (seqObj "list" its.toArray 0) := by
    rw [← sz]
    exact Heap.get?_push_size _ rfl
  show wpAny _ _ _ _ _ { s with heap := ((s.heap.push (seqObj "list" #[] 0)).update s.heap.objs.size (Obj.mapSeq (· ++ its.toArray))).push (seqObj "list" its.toArray 0) }
  rw [sz]
  refine wpAny_bind (wpAny_holding (wpAny_call_entry slot_list_sort ⟨_, at_, rfl⟩ entry_list_sort (list_sort_treeKAny strKind_oneLt at_ hS.keysOf (fun u v r e => keyKind_strs (by rw [← e]; exact hS)) few fun st h1 h2 => ⟨_, rfl, ?_⟩) (args_list_sort _)))
  obtain ⟨qs, g1, g2, g3⟩ := sorted_out_str hS h1 h2
  exact wpAny_pure ⟨_, rfl, h _ qs g1 g2 g3⟩
end
def rSortedTS (K : PySem.W.Frag) : List V → Hp → VK → Prop := fun vs H Q => ∃ a xs, vs = [V.ref a] ∧ SqT K H a (strL xs) ∧ xs.length ≤ 100000 ∧ ∀ p H', H p = none → Same H H' → H' p = some (.lst (strL (srt xs))) → Q (.ref p) H'
def oTuple (K : PySem.W.Frag) : List V → Hp → VK → Prop := fun xs H Q => ∃ p ys, xs = [.ref p] ∧ ((SqL K H p ys ∧ ∀ l, H l = none → Q (.ref l) (upd H l (.tup ys))) ∨ (SqT K H p ys ∧ Q (.ref p) H))
section
variable {X : Cx}
theorem cr_sortedTS : CallR X (.builtin "sorted") (rSortedTS X.K) := by
  intro pins s σ H vs us Q I r h
  obtain ⟨a, xs, rfl, hs, few, q⟩ := h
  have sl : sizeLine = 16777216 := rfl
  obtain ⟨its, rv, ht, len⟩ := I.tuple hs
  rw [Vals.ref1 r]
  have rl : xs.length = its.length := by
    have := rv.length
    rwa [strL_len] at this
  refine sorted_tup ht (show StrsAre its xs from rv.strs) (by omega) fun out qs h1 h2 h3 => ?_
  obtain ⟨ep, he⟩ := sortedAll_at s.heap its out
  have eq : qs = srt xs := srt_of h2 h3
  have lq : (qs.map V.str).length ≤ sizeLine := by rw [List.length_map, h2.length_eq]; omega
  refine ⟨.ref _, upd H (s.heap.objs.size + 1) (.lst (qs.map V.str)), I.laid (t' := s.toks) (fun _ _ => sortedAll_old) (Nat.le_succ _) ⟨lq, out.toList, ep, vals_of_strs h1, he⟩, rfl, ?_⟩
  have n0 := I.hok.fresh (a := s.heap.objs.size + 1) (Nat.le_succ _)
  exact q _ _ n0 (same_new n0) (by rw [upd_same, eq]; rfl)
theorem r_srtTS {K : PySem.W.Frag} {H : Hp} {Q : VK} {a : Addr} {xs : List Str} (h : H a = some (.tup (strL xs))) (few : xs.length ≤ 100000) (q : ∀ p H', H p = none → Same H H' → H' p = some (.lst (strL (srt xs))) → Q (.ref p) H') : rSortedTS K [.ref a] H Q :=
  ⟨a, xs, rfl, .of h, few, q⟩
theorem r_catT {K : PySem.W.Frag} {H : Hp} {Q : VK} {a b : Addr} {xs ys : List V} (ha : H a = some (.tup xs)) (hb : H b = some (.tup ys)) (few : xs.length + ys.length ≤ sizeLine) (q : ∀ p H', Same H H' → H' p = some (.tup (xs ++ ys)) → Q (.ref p) H') : rCatA K (.ref a) (.ref b) H Q := by
  refine ⟨a, b, xs, ys, rfl, rfl, .of ha, .of hb, few, fun e => ?_, fun _ e => ?_, fun _ _ p p0 => q p _ (same_new p0) upd_same⟩
  · cases e
    exact q b H (Same.refl _) hb
  · cases e
    exact q a H (Same.refl _) (by rw [List.append_nil]; exact ha)
theorem r_tupL {K : PySem.W.Frag} {H : Hp} {Q : VK} {p : Addr} {ys : List V} (h : SqL K H p ys) (q : ∀ l H', H l = none → Same H H' → H' l = some (.tup ys) → Q (.ref l) H') : oTuple K [.ref p] H Q :=
  ⟨p, ys, rfl, .inl ⟨h, fun l l0 => q l _ l0 (same_new l0) upd_same⟩⟩
end
end CP

set_option Elab.async false
set_option linter.all false
set_option maxRecDepth 100000
set_option maxHeartbeats 4000000
set_option autoImplicit false
/-! {k: v for a in x for b in y}: dict comprehensions of two clauses -/
namespace CP
open L2 PySem PyProof.Rows PySem.Spec
theorem turn2_out (kx vx t0 i0 t1 i1 : Expr) (c0 c1 : List Expr) (scope : Scope) (pos : Pos) (it : Value) (D : Addr) (env : Env) :
    compTurn (.DictComp kx vx [⟨t0, i0, c0, 0⟩, ⟨t1, i1, c1, 0⟩] scope pos) 0 it (.ref D) env = (do
      standAt i0.pos
      match ← pyNext it with
      | none => pure (.done .next)
      | some v => do
        letOwnedTupleGo t0 it v; assign t0 env v
        let mut yes := true
        for c in c0 do { if yes then yes ← isTrue c env (eval c env) }
        if yes then
          let x ← eval i1 env
          standAt i1.pos; let x ← foldedSetIterable i1 env x
          let _ ← runOwn (.compStart (.DictComp kx vx [⟨t0, i0, c0, 0⟩, ⟨t1, i1, c1, 0⟩] scope pos) 1 (← holding [x] (pyIter x)) (.ref D) env) env
        again (.compLoop (.DictComp kx vx [⟨t0, i0, c0, 0⟩, ⟨t1, i1, c1, 0⟩] scope pos) 0 it (.ref D) env)) := by rfl
theorem turn2_in (kx vx t0 i0 t1 i1 : Expr) (c0 c1 : List Expr) (scope : Scope) (pos : Pos) (it : Value) (D : Addr) (env : Env) :
    compTurn (.DictComp kx vx [⟨t0, i0, c0, 0⟩, ⟨t1, i1, c1, 0⟩] scope pos) 1 it (.ref D) env = (do
      standAt i1.pos
      match ← pyNext it with
      | none => pure (.done .next)
      | some v => do
        letOwnedTupleGo t1 it v; assign t1 env v
        let mut yes := true
        for c in c1 do { if yes then yes ← isTrue c env (eval c env) }
        if yes then
          (do
            let ku ← eval kx env
            let vu ← holding [ku] (eval vx env)
            standAt { kx.pos with endLine := (Expr.pos vx).endLine, endCol := (Expr.pos vx).endCol }
            holding [ku, vu] (dictSet D ku vu))
        again (.compLoop (.DictComp kx vx [⟨t0, i0, c0, 0⟩, ⟨t1, i1, c1, 0⟩] scope pos) 1 it (.ref D) env)) := by rfl
section
variable {prog : Program} {w : World} {A : Around} {R : Result → Shared → Prop} {s : Shared} {kx vx t0 i0 t1 i1 : Expr} {c0 c1 : List Expr} {scope : Scope} {pos : Pos} {it : Value} {D : Addr} {env : Env}
/-- the tests of a clause -/
abbrev allOf (cs : List Expr) (env : Env) : Sem Bool := forIn cs true fun c r => if r = true then do let ok ← isTrue c env (eval c env); pure (ForInStep.yield ok) else pure (ForInStep.yield r)
/-- what is noted when something is raised in the block -/
abbrev noted (prog : Program) (w : World) (A : Around) (env : Env) (R : Result → Shared → Prop) : Value → Shared → Prop := notedBy (model prog w) A env fun e s' => R (.error e) s'
theorem loop2_out (fold : ∀ x, foldedSetIterable i1 env x = pure x) (W : Nat → Shared → Prop)
    (turn : ∀ n s, W n s → wpAny (model prog w) A (pyNext it) (fun r sa => match r with
      | none => R (.ok .next) sa
      | some v => wpAny (model prog w) A (letOwnedTupleGo t0 it v) (fun _ sb => wpAny (model prog w) A (assign t0 env v) (fun _ sc => wpAny (model prog w) A (allOf c0 env) (fun ok sd =>
            if ok = true then wpAny (model prog w) A (eval i1 env) (fun x se => wpAny (model prog w) A (pyIter x) (fun it1 sf =>
              codeAny (model prog w) A (.compStart (.DictComp kx vx [⟨t0, i0, c0, 0⟩, ⟨t1, i1, c1, 0⟩] scope pos) 1 it1 (.ref D) env) (fun r s' => match r with
                | .ok _ => ∃ m, m < n ∧ W m s'
                | .error _ => False) sf) (noted prog w A env R) se) (noted prog w A env R) sd
            else ∃ m, m < n ∧ W m sd) (noted prog w A env R) sc) (noted prog w A env R) sb) (noted prog w A env R) sa) (noted prog w A env R) s)
    (n : Nat) (h : W n s) : codeAny (model prog w) A (.compLoop (.DictComp kx vx [⟨t0, i0, c0, 0⟩, ⟨t1, i1, c1, 0⟩] scope pos) 0 it (.ref D) env) R s := by
  refine codeAny_loop rfl W (fun n s hW => ?_) n h
  show wpAny _ A ((compTurn (.DictComp kx vx [⟨t0, i0, c0, 0⟩, ⟨t1, i1, c1, 0⟩] scope pos) 0 it (.ref D) env).onRaise (fun x => do noteFrame x env; theTreesLotGoes x)) _ _ s
  refine wpAny_noted ?_
  rw [turn2_out]
  refine wpAny_bind (wpAny_standAt (wpAny_bind (wpAny_mono (turn n s hW) (fun r sa ha => ?_) fun _ _ z => z)))
  match r, ha with
  | none, ha => exact wpAny_pure ha
  | some v, ha =>
    refine wpAny_bind (wpAny_mono ha (fun _ sb hb => wpAny_bind (wpAny_mono hb (fun _ sc hc => wpAny_bind (wpAny_mono hc (fun ok sd hd => ?_) fun _ _ z => z)) fun _ _ z => z)) fun _ _ z => z)
    match ok, hd with
    | false, hd => exact wpAny_pure ⟨rfl, hd⟩
    | true, hd =>
      refine wpAny_bind (wpAny_mono hd (fun x se he => wpAny_bind (wpAny_standAt (wpAny_bind (wpAny_of_eq (fold x) (wpAny_bind (wpAny_holding (wpAny_mono he (fun it1 sf hf => ?_) fun _ _ z => z))))))) fun _ _ z => z)
      refine wpAny_bind (wpAny_runOwn ?_)
      rw [Around.mark_none]
      refine codeAny_mono hf fun r s' hr => ?_
      match r, hr with
      | .ok f, hr => first | exact wpAny_pure ⟨rfl, hr⟩ | exact wpAny_bind (wpAny_pure (wpAny_pure ⟨rfl, hr⟩))
      | .error e, hr => exact hr.elim
theorem loop2_in (W : Nat → Shared → Prop)
    (turn : ∀ n s, W n s → wpAny (model prog w) A (pyNext it) (fun r sa => match r with
      | none => R (.ok .next) sa
      | some v => wpAny (model prog w) A (letOwnedTupleGo t1 it v) (fun _ sb => wpAny (model prog w) A (assign t1 env v) (fun _ sc => wpAny (model prog w) A (allOf c1 env) (fun ok sd =>
            if ok = true then wpAny (model prog w) A (eval kx env) (fun ku se => wpAny (model prog w) A (eval vx env) (fun vu sf =>
              wpAny (model prog w) A (dictSet D ku vu) (fun _ sg => ∃ m, m < n ∧ W m sg) (noted prog w A env R) sf) (noted prog w A env R) se) (noted prog w A env R) sd
            else ∃ m, m < n ∧ W m sd) (noted prog w A env R) sc) (noted prog w A env R) sb) (noted prog w A env R) sa) (noted prog w A env R) s)
    (n : Nat) (h : W n s) : codeAny (model prog w) A (.compLoop (.DictComp kx vx [⟨t0, i0, c0, 0⟩, ⟨t1, i1, c1, 0⟩] scope pos) 1 it (.ref D) env) R s := by
  refine codeAny_loop rfl W (fun n s hW => ?_) n h
  show wpAny _ A ((compTurn (.DictComp kx vx [⟨t0, i0, c0, 0⟩, ⟨t1, i1, c1, 0⟩] scope pos) 1 it (.ref D) env).onRaise (fun x => do noteFrame x env; theTreesLotGoes x)) _ _ s
  refine wpAny_noted ?_
  rw [turn2_in]
  refine wpAny_bind (wpAny_standAt (wpAny_bind (wpAny_mono (turn n s hW) (fun r sa ha => ?_) fun _ _ z => z)))
  match r, ha with
  | none, ha => exact wpAny_pure ha
  | some v, ha =>
    refine wpAny_bind (wpAny_mono ha (fun _ sb hb => wpAny_bind (wpAny_mono hb (fun _ sc hc => wpAny_bind (wpAny_mono hc (fun ok sd hd => ?_) fun _ _ z => z)) fun _ _ z => z)) fun _ _ z => z)
    match ok, hd with
    | false, hd => exact wpAny_pure ⟨rfl, hd⟩
    | true, hd =>
      refine wpAny_bind (wpAny_bind (wpAny_mono hd (fun ku se he => wpAny_bind (wpAny_holding (wpAny_mono he (fun vu sf hf => ?_) fun _ _ z => z))) fun _ _ z => z))
      exact wpAny_bind (wpAny_standAt (wpAny_holding (wpAny_mono hf (fun _ sg hg => wpAny_pure ⟨rfl, hg⟩) fun _ _ z => z)))
theorem start2_ok (h0 : codeAny (model prog w) A (.compLoop (.DictComp kx vx [⟨t0, i0, c0, 0⟩, ⟨t1, i1, c1, 0⟩] scope pos) 1 it (.ref D) env) R s)
    (h : wpAny (model prog w) A (pyIter it) (fun it' s' => codeAny (model prog w) A (.compLoop (.DictComp kx vx [⟨t0, i0, c0, 0⟩, ⟨t1, i1, c1, 0⟩] scope pos) 1 it' (.ref D) env) R s') (noted prog w A env R) s) :
    codeAny (model prog w) A (.compStart (.DictComp kx vx [⟨t0, i0, c0, 0⟩, ⟨t1, i1, c1, 0⟩] scope pos) 1 it (.ref D) env) R s := by
  refine codeAny_of_tree ?_
  show wpAny _ _ ((compStart (.DictComp kx vx [⟨t0, i0, c0, 0⟩, ⟨t1, i1, c1, 0⟩] scope pos) 1 it (.ref D) env).onRaise (fun x => do noteFrame x env; standAt theWindowsPlace)) _ _ s
  refine wpAny_notedAt ?_
  unfold compStart
  show wpAny _ _ (ask >>= _) _ _ s
  refine wpAny_bind (wpAny_askSetting (wpAny_ite ?_))
  split
  · first
      | exact wpAny_bind (wpAny_pure (wpAny_pure ⟨rfl, h0⟩))
      | exact wpAny_pure ⟨rfl, h0⟩
  · first
      | exact wpAny_bind (wpAny_rule (wpAny_bind (wpAny_standAt (wpAny_bind (wpAny_mono h (fun _ _ z => wpAny_pure ⟨rfl, z⟩) fun _ _ x => x)))))
      | (refine wpAny_bind (wpAny_rule ?_); show wpAny _ _ (standAt i1.pos >>= _) _ _ s; exact wpAny_bind (wpAny_standAt (wpAny_bind (wpAny_mono h (fun _ _ z => wpAny_pure ⟨rfl, z⟩) fun _ _ x => x))))
end
/-- the reading: behind the first clause's store the second source's own loop -/
def tDg2 (o : HO) (wi : TI) (g : TG) (tt : TT) (wi1 : TI) (g1 : TG) (tt1 : TT) (tk tv : TE) (vs vs1 : List Nat) : TE := fun σ H Q => wi σ H fun J H1 => ∀ D, H1 D = none → ∃ W : Nat → Nat → Hp → Prop, (∃ m, W 0 m (upd H1 D o)) ∧ ∀ i m H, W i m H →
  (J.stop i H ∧ Q (.ref D) H) ∨ (J.go i H ∧ ∃ N : Hp → Prop, (∀ H', N H' → ∃ m', m' < m ∧ W (i + 1) m' H') ∧ ∀ x H', J.yld i H x H' → g x (wipe σ vs) H' fun σ2 H2 => wipe σ2 vs = wipe σ vs ∧ tt σ2 H2 fun b H3 =>
    if b = true then wi1 σ2 H3 fun J1 H4 => ∃ W1 : Nat → Nat → Hp → Prop, (∃ m, W1 0 m H4) ∧ ∀ j k H, W1 j k H →
      (J1.stop j H ∧ N H) ∨ (J1.go j H ∧ ∃ N1 : Hp → Prop, (∀ H', N1 H' → ∃ k', k' < k ∧ W1 (j + 1) k' H') ∧ ∀ x H', J1.yld j H x H' → g1 x (wipe σ2 vs1) H' fun σ3 H5 => wipe σ3 vs1 = wipe σ2 vs1 ∧ tt1 σ3 H5 fun b H6 =>
        if b = true then tk σ3 H6 fun y H7 => tv σ3 H7 fun z H8 => ∃ H9, DPut H8 D y z H9 ∧ N1 H9 else N1 H6)
    else N H3)
theorem r_dg2 {o : HO} {wi : TI} {g : TG} {tt : TT} {wi1 : TI} {g1 : TG} {tt1 : TT} {tk tv : TE} {vs vs1 : List Nat} {σ : L2.St} {H : Hp} {Q : VK} (q : wi σ H fun J H1 => ∀ D, H1 D = none → ∃ W : Nat → Nat → Hp → Prop, (∃ m, W 0 m (upd H1 D o)) ∧ ∀ i m H, W i m H →
  (J.stop i H ∧ Q (.ref D) H) ∨ (J.go i H ∧ ∃ N : Hp → Prop, (∀ H', N H' → ∃ m', m' < m ∧ W (i + 1) m' H') ∧ ∀ x H', J.yld i H x H' → g x (wipe σ vs) H' fun σ2 H2 => wipe σ2 vs = wipe σ vs ∧ tt σ2 H2 fun b H3 =>
    if b = true then wi1 σ2 H3 fun J1 H4 => ∃ W1 : Nat → Nat → Hp → Prop, (∃ m, W1 0 m H4) ∧ ∀ j k H, W1 j k H →
      (J1.stop j H ∧ N H) ∨ (J1.go j H ∧ ∃ N1 : Hp → Prop, (∀ H', N1 H' → ∃ k', k' < k ∧ W1 (j + 1) k' H') ∧ ∀ x H', J1.yld j H x H' → g1 x (wipe σ2 vs1) H' fun σ3 H5 => wipe σ3 vs1 = wipe σ2 vs1 ∧ tt1 σ3 H5 fun b H6 =>
        if b = true then tk σ3 H6 fun y H7 => tv σ3 H7 fun z H8 => ∃ H9, DPut H8 D y z H9 ∧ N1 H9 else N1 H6)
    else N H3)) : tDg2 o wi g tt wi1 g1 tt1 tk tv vs vs1 σ H Q := q
section
variable {X : Cx}
theorem pe_dg2 {o : HO} {kx vx tg iter tg1 iter1 : Expr} {cs cs1 : List Expr} {scope : Scope} {own : List (Str × Nat)} {vs1 : List Nat} {pos : Pos} {wi wi1 : TI} {g g1 : TG} {tt tt1 : TT} {tk tv : TE} (eo : Emp o) (room : X.A.units < cLine) (calm : X.calm = true) (nd : X.N.Nodup)
    (it : PI X tg iter wi) (blk : BlkOk X.N X.env.scope scope own) (sub : ∀ i ∈ vs1, i ∈ own.map (·.2))
    (dg : ∀ (s : Shared) (H : Hp) (C : Addr) (cl : List (Str × Addr)) (fp : List Addr), PG (X.blk s H scope (compEnvC scope cl C X.env) fp) tg g) (dt : ∀ (s : Shared) (H : Hp) (C : Addr) (cl : List (Str × Addr)) (fp : List Addr), PTs (X.blk s H scope (compEnvC scope cl C X.env) fp) cs tt)
    (di1 : ∀ (s : Shared) (H : Hp) (C : Addr) (cl : List (Str × Addr)) (fp : List Addr), PI (X.blk s H scope (compEnvC scope cl C X.env) fp) tg1 iter1 wi1)
    (dg1 : ∀ (s : Shared) (H : Hp) (C : Addr) (cl : List (Str × Addr)) (fp : List Addr), PG (X.blk s H scope (compEnvC scope cl C X.env) fp) tg1 g1) (dt1 : ∀ (s : Shared) (H : Hp) (C : Addr) (cl : List (Str × Addr)) (fp : List Addr), PTs (X.blk s H scope (compEnvC scope cl C X.env) fp) cs1 tt1)
    (dk : ∀ (s : Shared) (H : Hp) (C : Addr) (cl : List (Str × Addr)) (fp : List Addr), PE (X.blk s H scope (compEnvC scope cl C X.env) fp) kx tk)
    (dv : ∀ (s : Shared) (H : Hp) (C : Addr) (cl : List (Str × Addr)) (fp : List Addr), PE (X.blk s H scope (compEnvC scope cl C X.env) fp) vx tv)
    (fold : ∀ x, foldedSetIterable iter X.env x = pure x := by intro _; rfl) (fold1 : ∀ env x, foldedSetIterable iter1 env x = pure x := by intro _ _; rfl) :
    PE X (.DictComp kx vx [⟨tg, iter, cs, 0⟩, ⟨tg1, iter1, cs1, 0⟩] scope pos) (tDg2 o wi g tt wi1 g1 tt1 tk tv (own.map (·.2)) vs1) := by
  constructor
  intro pins s σ H Q I h
  rw [arm_eval_DictComp]
  have free : ∀ y ∈ scope.names, y.2 = .free → ∃ c, X.env.cells.lookup y.1 = some c := fun y hy e => (blk.free y hy e).elim (fun z => I.ok.has _ (.inl z)) fun z => I.ok.has _ (.inr z)
  refine wpAny_comprehension_free (use := none) rfl fold (closure_ok free) blk.kind (fun y hy e => (blk.uniq y hy).trans (by rw [e])) (thn (it.run pins s σ H _ I h) fun xv s1 z1 => thn z1 fun iv s2 z2 => ?_)
  obtain ⟨ia, fp, tn, J, H2, rfl, I2, T, st2, f2, q⟩ := z2
  refine wpAny_newObj_type (newEnv_comp ?_)
  generalize eD : s2.heap.objs.size = D
  have D0 : H2 D = none := I2.hok.fresh (Nat.le_of_eq eD)
  obtain ⟨W, ⟨m0, w0⟩, turn⟩ := q D D0
  generalize e3 : ({ s2 with heap := s2.heap.push { cls := .type "dict", data := .dict #[] } } : Shared) = s3
  have I3 : Inv X pins σ (upd H2 D o) s3 := by
    subst e3
    refine I2.laid (t' := s2.toks) (fun b u z => Heap.get?_push_of_some _ z) (Nat.le_of_eq eD) ?_
    cases eD
    exact eo.ok s2.heap I2.big
  have p3 : s3.heap = s2.heap.push { cls := .type "dict", data := .dict #[] } := by rw [← e3]
  have low : ∀ b ∈ fp, b < s2.heap.objs.size := fun b hb => let ⟨u, z, _⟩ := T.obj _ _ st2 b hb; Heap.lt_size z
  have f3 : ∀ b ∈ fp, FpOk X pins (upd H2 D o) b ∧ b < s3.heap.objs.size := fun b hb => by
    have lt := low b hb
    refine ⟨⟨(upd_ne (by rw [← eD]; exact Nat.ne_of_lt lt)).trans (f2 b hb).1, (f2 b hb).2⟩, ?_⟩
    rw [p3, Heap.size_push]
    exact Nat.lt_succ_of_lt lt
  have st3 : tn 0 s3.heap := T.keep _ _ _ st2 fun b _ u z => by rw [p3]; exact Heap.get?_push_of_some _ z
  have I4 := block_start I3 blk nd f3
  have pg := dg s3 (upd H2 D o) s3.heap.objs.size (cellsFrom (s3.heap.objs.size + 1) scope.names (cloFrom X.env.cells scope.names [])) fp
  have pt := dt s3 (upd H2 D o) s3.heap.objs.size (cellsFrom (s3.heap.objs.size + 1) scope.names (cloFrom X.env.cells scope.names [])) fp
  have pi1 := di1 s3 (upd H2 D o) s3.heap.objs.size (cellsFrom (s3.heap.objs.size + 1) scope.names (cloFrom X.env.cells scope.names [])) fp
  have pg1 := dg1 s3 (upd H2 D o) s3.heap.objs.size (cellsFrom (s3.heap.objs.size + 1) scope.names (cloFrom X.env.cells scope.names [])) fp
  have pt1 := dt1 s3 (upd H2 D o) s3.heap.objs.size (cellsFrom (s3.heap.objs.size + 1) scope.names (cloFrom X.env.cells scope.names [])) fp
  have pk := dk s3 (upd H2 D o) s3.heap.objs.size (cellsFrom (s3.heap.objs.size + 1) scope.names (cloFrom X.env.cells scope.names [])) fp
  have pv := dv s3 (upd H2 D o) s3.heap.objs.size (cellsFrom (s3.heap.objs.size + 1) scope.names (cloFrom X.env.cells scope.names [])) fp
  show codeAny _ _ (.compStart (.DictComp kx vx [⟨tg, iter, cs, 0⟩, ⟨tg1, iter1, cs1, 0⟩] scope pos) 0 (.ref ia) (.ref D) (compEnvC scope (cellsFrom (s3.heap.objs.size + 1) scope.names (cloFrom X.env.cells scope.names [])) s3.heap.objs.size X.env)) (compPost (model X.prog X.w) X.A X.xe none (EP X pins σ Q) (.ref D) s3.heap.objs.size) { s3 with heap := pushCells (s3.heap.push { cls := .type "dict", data := .dict #[] }) scope.names }
  have no : ∀ b ∈ fp, (upd H2 D o) b = none := fun b hb => (f3 b hb).1.1
  generalize ece : compEnvC scope (cellsFrom (s3.heap.objs.size + 1) scope.names (cloFrom X.env.cells scope.names [])) s3.heap.objs.size X.env = ce at I4 pg pt pi1 pg1 pt1 pk pv ⊢
  have cl : ce.locals = s3.heap.objs.size := by cases ece; rfl
  generalize eH3 : upd H2 D o = H3 at I3 I4 pg pt pi1 pg1 pt1 pk pv w0 no f3
  generalize e4 : ({ s3 with heap := pushCells (s3.heap.push { cls := .type "dict", data := .dict #[] }) scope.names } : Shared) = s4 at I4 ⊢
  have st4 : tn 0 s4.heap := T.keep _ _ _ st3 fun b _ u z => by rw [← e4]; exact pushCells_keeps _ _ _ _ (Heap.get?_push_of_some _ z)
  have still : ∀ {σ' : L2.St} {H' : Hp} {s' : Shared}, Inv (X.blk s3 H3 scope ce fp) [] σ' H' s' → (∀ b ∈ fp, H' b = none) → ∀ b ∈ fp, FpOk (X.blk s3 H3 scope ce fp) [] H' b := fun {σ' H' s'} K n b hb =>
    ⟨n b hb, (K.ok.exf b hb).1, K.ok.exfs b hb, .inl hb, fun x c z => (K.ok.exf b hb).2 x c z, fun p hp => nomatch (show p ∈ ([] : List (Addr × Obj)) from hp)⟩
  have loop : codeAny (model X.prog X.w) X.A (.compLoop (.DictComp kx vx [⟨tg, iter, cs, 0⟩, ⟨tg1, iter1, cs1, 0⟩] scope pos) 0 (.ref ia) (.ref D) ce) (compPost (model X.prog X.w) X.A X.xe none (EP X pins σ Q) (.ref D) s3.heap.objs.size) s4 := by
    refine loop2_out (fold1 ce) (fun n s' => ∃ i H', Inv (X.blk s3 H3 scope ce fp) [] (wipe σ (own.map (·.2))) H' s' ∧ tn i s'.heap ∧ (∀ b ∈ fp, H' b = none) ∧ W i n H') (fun n s5 ⟨i, H5, I5, st5, n5, w5⟩ => ?_) m0 ⟨0, H3, I4, st4, no, w0⟩
    rcases turn i n H5 w5 with ⟨stop, fin⟩ | ⟨go, N, nx, step⟩
    · refine thnF (T.done (X.blk s3 H3 scope ce fp) rfl rfl rfl calm i [] s5 _ H5 (fun _ _ => False) I5 (still I5 n5) st5 stop) fun v s6 z => ?_
      obtain ⟨rfl, I6⟩ := z
      have I7 : Inv X pins σ H5 s6 := I3.call' (ch := fp) I6.os I6.base I6.hok I6.bare fun b hb => let k := (f3 b hb).1; ⟨k.2.2.2.1, k.2.1, k.2.2.2.2.1, k.2.2.2.2.2⟩
      have cz : H5 s3.heap.objs.size = none := by rw [← cl]; exact I6.free
      obtain ⟨m, ns, _⟩ := I6.loc
      have ns : s6.heap.Ns s3.heap.objs.size m := by rw [← cl]; exact ns
      obtain ⟨p0, p1, p2, p3, p4, p5⟩ := I3.fpOk (Nat.le_refl _) cz
      exact ⟨m, ns, fun h2 sb => ⟨.ref D, H5, I7.turned (t' := s6.toks) (fun b u ne e => (sb.2 b ne).trans e) p0 p1 p3 p4 p5, rfl, fin⟩⟩
    · refine thnF (T.item (X.blk s3 H3 scope ce fp) rfl rfl rfl calm i [] s5 _ H5 (fun _ _ => False) I5 (still I5 n5) st5 go) fun v s6 z => ?_
      obtain ⟨u, rfl, z⟩ := z
      refine thnF z fun _ s7 z => ?_
      obtain ⟨x, H7, I7, r7, y7, st7, n7⟩ := z
      have J7 := I7.pinned (still I7 n7) (T.obj _ _ st7)
      refine thnF (pg.run _ s7 _ H7 x u _ J7 r7 (step x H7 y7)) fun _ s8 z => ?_
      obtain ⟨σ8, H8, I8, ew, q8⟩ := z
      refine thnF (pt.run _ s8 σ8 H8 _ I8 q8) fun b s9 z => ?_
      obtain ⟨H9, I9, q9⟩ := z
      have end_ : ∀ {σ9 : L2.St} {s' : Shared} {H' : Hp}, Inv (X.blk s3 H3 scope ce fp) ([] ++ pinsAt fp s7.heap) σ9 H' s' → (wipe σ (own.map (·.2))).length = σ9.length → (∀ (j : Nat) v, (wipe σ (own.map (·.2)))[j]? = some (some v) → σ9[j]? = some (some v)) → N H' →
          ∃ m, m < n ∧ ∃ i H', Inv (X.blk s3 H3 scope ce fp) [] (wipe σ (own.map (·.2))) H' s' ∧ tn i s'.heap ∧ (∀ b ∈ fp, H' b = none) ∧ W i m H' := fun {σ9 s' H'} K len knows hN => by
        obtain ⟨m, lt, w⟩ := nx H' hN
        have pin : ∀ b ∈ fp, ∀ u, s7.heap.get? b = some u → s'.heap.get? b = some u ∧ H' b = none := fun b hb u z => by
          obtain ⟨z1, z2, _⟩ := K.pin (b, u) (List.mem_append_right _ (List.mem_append_right _ (mem_pinsAt hb z)))
          exact ⟨z1, z2⟩
        refine ⟨m, lt, i + 1, H', (K.unpinned (pins := [])).weak len knows, T.keep _ _ _ st7 fun b hb u z => (pin b hb u z).1, fun b hb => ?_, w⟩
        obtain ⟨u, z, _⟩ := T.obj _ _ st7 b hb
        exact (pin b hb u z).2
      have len8 : (wipe σ (own.map (·.2))).length = σ8.length := (congrArg List.length ew.symm).trans (wipe_length ..)
      match b, q9 with
      | false, q9 => exact end_ I9 len8 (fun j v z => (wipe_some (ew ▸ z)).1) q9
      | true, q9 =>
        have knows9 : ∀ (j : Nat) v, (wipe σ (own.map (·.2)))[j]? = some (some v) → (wipe σ8 vs1)[j]? = some (some v) := fun j v z => by
          rw [← ew] at z
          obtain ⟨z1, z2⟩ := wipe_some z
          exact (wipe_out fun k => z2 (sub j k)).trans z1
        refine thnF (pi1.run _ s9 σ8 H9 _ I9 q9) fun xv1 s10 z => thnF z fun iv1 s11 z => ?_
        obtain ⟨ib, fp1, tn1, J1, H11, rfl, I11, T1, st11, f11, W1, ⟨m1, w1⟩, turn1⟩ := z
        have still1 : ∀ {H' : Hp}, (∀ b ∈ fp1, H' b = none) → ∀ b ∈ fp1, FpOk (X.blk s3 H3 scope ce fp) ([] ++ pinsAt fp s7.heap) H' b := fun n b hb => ⟨n b hb, (f11 b hb).2⟩
        have loop1 : codeAny (model X.prog X.w) X.A (.compLoop (.DictComp kx vx [⟨tg, iter, cs, 0⟩, ⟨tg1, iter1, cs1, 0⟩] scope pos) 1 (.ref ib) (.ref D) ce) (fun r s' => match r with
              | .ok _ => ∃ m, m < n ∧ ∃ i H', Inv (X.blk s3 H3 scope ce fp) [] (wipe σ (own.map (·.2))) H' s' ∧ tn i s'.heap ∧ (∀ b ∈ fp, H' b = none) ∧ W i m H'
              | .error _ => False) s11 := by
          refine loop2_in (fun k s' => ∃ j H', Inv (X.blk s3 H3 scope ce fp) ([] ++ pinsAt fp s7.heap) (wipe σ8 vs1) H' s' ∧ tn1 j s'.heap ∧ (∀ b ∈ fp1, H' b = none) ∧ W1 j k H') (fun k s12 ⟨j, H12, I12, st12, n12, w12⟩ => ?_) m1 ⟨0, H11, I11.weak (wipe_length _ _) (fun j v z => (wipe_some z).1), st11, fun b hb => (f11 b hb).1, w1⟩
          rcases turn1 j k H12 w12 with ⟨stop1, fin1⟩ | ⟨go1, N1, nx1, step1⟩
          · refine thnF (T1.done (X.blk s3 H3 scope ce fp) rfl rfl rfl calm j _ s12 (wipe σ8 vs1) H12 (fun _ _ => False) I12 (still1 n12) st12 stop1) fun v s13 z => ?_
            obtain ⟨rfl, I13⟩ := z
            exact end_ I13 (len8.trans (wipe_length σ8 vs1).symm) knows9 fin1
          · refine thnF (T1.item (X.blk s3 H3 scope ce fp) rfl rfl rfl calm j _ s12 (wipe σ8 vs1) H12 (fun _ _ => False) I12 (still1 n12) st12 go1) fun v s13 z => ?_
            obtain ⟨u1, rfl, z⟩ := z
            refine thnF z fun _ s14 z => ?_
            obtain ⟨x1, H14, I14, r14, y14, st14, n14⟩ := z
            have J14 := I14.pinned (still1 n14) (T1.obj _ _ st14)
            refine thnF (pg1.run _ s14 (wipe σ8 vs1) H14 x1 u1 _ J14 r14 (step1 x1 H14 y14)) fun _ s15 z => ?_
            obtain ⟨σ15, H15, I15, ew1, q15⟩ := z
            refine thnF (pt1.run _ s15 σ15 H15 _ I15 q15) fun b1 s16 z => ?_
            obtain ⟨H16, I16, q16⟩ := z
            have end1 : ∀ {s' : Shared} {H' : Hp}, Inv (X.blk s3 H3 scope ce fp) (([] ++ pinsAt fp s7.heap) ++ pinsAt fp1 s14.heap) σ15 H' s' → N1 H' → ∃ m, m < k ∧ ∃ j H', Inv (X.blk s3 H3 scope ce fp) ([] ++ pinsAt fp s7.heap) (wipe σ8 vs1) H' s' ∧ tn1 j s'.heap ∧ (∀ b ∈ fp1, H' b = none) ∧ W1 j m H' := fun {s' H'} K hN => by
              obtain ⟨m, lt, w⟩ := nx1 H' hN
              have pin : ∀ b ∈ fp1, ∀ u, s14.heap.get? b = some u → s'.heap.get? b = some u ∧ H' b = none := fun b hb u z => by
                obtain ⟨z1, z2, _⟩ := K.pin (b, u) (List.mem_append_right _ (List.mem_append_right _ (mem_pinsAt hb z)))
                exact ⟨z1, z2⟩
              refine ⟨m, lt, j + 1, H', K.unpinned.weak ((congrArg List.length ew1.symm).trans (wipe_length ..)) (fun i v z => (wipe_some (ew1 ▸ z)).1), T1.keep _ _ _ st14 fun b hb u z => (pin b hb u z).1, fun b hb => ?_, w⟩
              obtain ⟨u, z, _⟩ := T1.obj _ _ st14 b hb
              exact (pin b hb u z).2
            match b1, q16 with
            | false, q16 => exact end1 I16 q16
            | true, q16 =>
              refine thnF (pk.run _ s16 σ15 H16 _ I16 q16) fun ku s17 z => ?_
              obtain ⟨ky, H17, I17, r17, q17⟩ := z
              refine thnF (pv.run _ s17 σ15 H17 _ I17 q17) fun vu s18 z => ?_
              obtain ⟨vy, H18, I18, r18, H19, put, q19⟩ := z
              exact dictSet_put (X := X.blk s3 H3 scope ce fp) room I18 put r17 r18 fun s19 I19 => end1 I19 q19
        exact start2_ok loop1 (T1.self X.A 0 _ _ _ st11 loop1)
  exact codeAny_compStart_dict loop (T.self X.A 0 _ _ _ st4 loop)
end
end CP

set_option Elab.async false
set_option linter.all false
set_option maxRecDepth 100000
set_option maxHeartbeats 4000000
set_option autoImplicit false
/-! sums of forms, and what forms are worth under a function of their products -/
namespace CP
open L2 PySem PyProof.Rows
/-! ### what is worth what -/
def lin (φ : List Str → Int) (rs : List Tm) : Int := (rs.map fun r => r.2 * φ r.1).sum
theorem lin_nil (φ : List Str → Int) : lin φ [] = 0 := rfl
theorem lin_cons (φ : List Str → Int) (r : Tm) (rs : List Tm) : lin φ (r :: rs) = r.2 * φ r.1 + lin φ rs := by
  unfold lin
  rw [List.map_cons, List.sum_cons]
theorem lin_app (φ : List Str → Int) (rs ss : List Tm) : lin φ (rs ++ ss) = lin φ rs + lin φ ss := by
  unfold lin
  rw [List.map_append, List.sum_append]
theorem lin_put (φ : List Str → Int) (p : List Str) (n : Int) : ∀ rs : List Tm, lin φ (putT rs p n) = lin φ rs + (n - getT rs p) * φ p
  | [] => by
    show lin φ [(p, n)] = 0 + (n - 0) * φ p
    rw [lin_cons, lin_nil, Int.sub_zero, Int.add_comm]
  | r :: rs => by
    unfold putT getT
    by_cases e : r.1 = p
    · rw [if_pos e, if_pos e, lin_cons, lin_cons, e, Int.sub_mul]
      show n * φ p + _ = _
      omega
    · rw [if_neg e, if_neg e, lin_cons, lin_cons, lin_put φ p n rs]
      omega
theorem lin_putS (φ : List Str → Int) (p : List Str) (m : Int) (rs : List Tm) : lin φ (putT rs p (getT rs p + m)) = lin φ rs + m * φ p := by
  rw [lin_put, show getT rs p + m - getT rs p = m by omega]
theorem lin_kept (φ : List Str → Int) : ∀ rs : List Tm, lin φ (keptM rs) = lin φ rs
  | [] => rfl
  | r :: rs => by
    have i := lin_kept φ rs
    unfold keptM at *
    rw [List.filter_cons]
    split
    · rw [lin_cons, lin_cons, i]
    · rename_i h
      have e : r.2 = 0 := by simpa using h
      rw [lin_cons, e, Int.zero_mul, Int.zero_add, i]
theorem lin_mulRow (φ : List Str → Int) (a : Tm) : ∀ (gs acc : List Tm), lin φ (mulRow gs acc a) = lin φ acc + a.2 * lin (fun q => φ (srt (a.1 ++ q))) gs
  | [], acc => by unfold mulRow; rw [List.foldl_nil, lin_nil, Int.mul_zero, Int.add_zero]
  | b :: gs, acc => by
    have i := lin_mulRow φ a gs (mulStep a acc b)
    unfold mulRow at *
    rw [List.foldl_cons, i, lin_cons]
    unfold mulStep
    rw [lin_putS, Int.mul_add, Int.mul_assoc]
    omega
theorem lin_mulR (φ : List Str → Int) (gs : List Tm) : ∀ (fs acc : List Tm), lin φ (fs.foldl (mulRow gs) acc) = lin φ acc + lin (fun p => lin (fun q => φ (srt (p ++ q))) gs) fs
  | [], acc => by rw [List.foldl_nil, lin_nil, Int.add_zero]
  | a :: fs, acc => by
    rw [List.foldl_cons, lin_mulR φ gs fs, lin_mulRow, lin_cons]
    omega
/-! ### sums -/
def addS (n : Int) (acc : List Tm) (r : Tm) : List Tm := putT acc r.1 (getT acc r.1 + r.2 * n)
def timesS (n : Int) (acc : List Tm) (r : Tm) : List Tm := putT acc r.1 (r.2 * n)
def addR (f g : Fm) : List Tm := g.1.foldl (addS f.2) (f.1.foldl (timesS g.2) [])
def addM (f g : Fm) : Fm := madeM (addR f g) (f.2 * g.2)
def negM (f : Fm) : Fm := (f.1.map fun r => (r.1, 0 - r.2), f.2)
theorem putT_new {rs : List Tm} {p : List Str} {n : Int} (h : p ∉ rs.map (·.1)) : putT rs p n = rs ++ [(p, n)] := by
  induction rs with
  | nil => rfl
  | cons r rs ih =>
    unfold putT
    rw [if_neg fun e => h (by rw [← e]; exact List.mem_cons_self ..), ih fun m => h (List.mem_cons_of_mem _ m)]
    rfl
theorem times_eq (n : Int) : ∀ (rs acc : List Tm), (rs.map (·.1)).Nodup → (∀ r ∈ rs, r.1 ∉ acc.map (·.1)) → rs.foldl (timesS n) acc = acc ++ rs.map fun r => (r.1, r.2 * n)
  | [], acc, _, _ => by rw [List.foldl_nil, List.map_nil, List.append_nil]
  | r :: rs, acc, nd, h => by
    rw [List.map_cons, List.nodup_cons] at nd
    have e : timesS n acc r = acc ++ [(r.1, r.2 * n)] := putT_new (h r (List.mem_cons_self ..))
    rw [List.foldl_cons, e, times_eq n rs _ nd.2 fun s hs m => ?_, List.map_cons, List.append_assoc]
    · rfl
    · rw [List.map_append] at m
      rcases List.mem_append.mp m with z | z
      · exact h s (List.mem_cons_of_mem _ hs) z
      · have e2 : s.1 = r.1 := List.mem_singleton.mp z
        exact nd.1 (List.mem_map.mpr ⟨s, hs, e2⟩)
theorem addS_nd {n : Int} : ∀ {rs acc : List Tm}, (acc.map (·.1)).Nodup → ((rs.foldl (addS n) acc).map (·.1)).Nodup
  | [], _, h => h
  | r :: rs, acc, h => addS_nd (rs := rs) (putT_nd h)
theorem addS_len {n : Int} : ∀ {rs acc : List Tm}, (rs.foldl (addS n) acc).length ≤ acc.length + rs.length
  | [], _ => Nat.le_refl _
  | r :: rs, acc => by
    have h1 := addS_len (n := n) (rs := rs) (acc := addS n acc r)
    have h2 : (addS n acc r).length ≤ acc.length + 1 := putT_len ..
    rw [List.foldl_cons, List.length_cons]
    omega
theorem lin_addS (φ : List Str → Int) (n : Int) : ∀ (rs acc : List Tm), lin φ (rs.foldl (addS n) acc) = lin φ acc + n * lin φ rs
  | [], acc => by rw [List.foldl_nil, lin_nil, Int.mul_zero, Int.add_zero]
  | r :: rs, acc => by
    rw [List.foldl_cons, lin_addS φ n rs, lin_cons]
    unfold addS
    rw [lin_putS, Int.mul_add, Int.mul_comm r.2 n, Int.mul_assoc]
    omega
theorem lin_times (φ : List Str → Int) (n : Int) : ∀ rs : List Tm, lin φ (rs.map fun r => (r.1, r.2 * n)) = n * lin φ rs
  | [] => by rw [List.map_nil, lin_nil, Int.mul_zero]
  | r :: rs => by
    rw [List.map_cons, lin_cons, lin_cons, lin_times φ n rs, Int.mul_add]
    show r.2 * n * φ r.1 + _ = _
    rw [Int.mul_comm r.2 n, Int.mul_assoc]
theorem lin_addR (φ : List Str → Int) {f g : Fm} (nd : (f.1.map (·.1)).Nodup) : lin φ (addR f g) = g.2 * lin φ f.1 + f.2 * lin φ g.1 := by
  unfold addR
  rw [lin_addS, times_eq _ _ _ nd (by simp), List.nil_append, lin_times]
theorem lin_neg (φ : List Str → Int) : ∀ rs : List Tm, lin φ (rs.map fun r => (r.1, 0 - r.2)) = 0 - lin φ rs
  | [] => rfl
  | r :: rs => by
    rw [List.map_cons, lin_cons, lin_cons, lin_neg φ rs]
    show (0 - r.2) * φ r.1 + _ = _
    rw [Int.sub_mul, Int.zero_mul]
    omega
/-! ### how great -/
def nrm (rs : List Tm) : Nat := (rs.map fun r => r.2.natAbs).sum
theorem nrm_cons (r : Tm) (rs : List Tm) : nrm (r :: rs) = r.2.natAbs + nrm rs := by unfold nrm; rw [List.map_cons, List.sum_cons]
theorem nrm_put (p : List Str) (n : Int) : ∀ rs : List Tm, nrm (putT rs p n) + (getT rs p).natAbs = nrm rs + n.natAbs
  | [] => by
    show nrm [(p, n)] + 0 = 0 + n.natAbs
    rw [nrm_cons]
    show n.natAbs + 0 + 0 = _
    omega
  | r :: rs => by
    unfold putT getT
    by_cases e : r.1 = p
    · rw [if_pos e, if_pos e, nrm_cons, nrm_cons]
      show n.natAbs + _ + _ = _
      omega
    · rw [if_neg e, if_neg e, nrm_cons, nrm_cons]
      have := nrm_put p n rs
      omega
theorem nrm_putS (p : List Str) (m : Int) (rs : List Tm) : nrm (putT rs p (getT rs p + m)) ≤ nrm rs + m.natAbs := by
  have := nrm_put p (getT rs p + m) rs
  omega
theorem nrm_kept : ∀ rs : List Tm, nrm (keptM rs) ≤ nrm rs
  | [] => Nat.le_refl _
  | r :: rs => by
    have i := nrm_kept rs
    unfold keptM at *
    rw [List.filter_cons, nrm_cons]
    split
    · rw [nrm_cons]; omega
    · omega
theorem nrm_mulRow (a : Tm) : ∀ (gs acc : List Tm), nrm (mulRow gs acc a) ≤ nrm acc + a.2.natAbs * nrm gs
  | [], acc => by unfold mulRow; rw [List.foldl_nil]; omega
  | b :: gs, acc => by
    have i := nrm_mulRow a gs (mulStep a acc b)
    have j := nrm_putS (srt (a.1 ++ b.1)) (a.2 * b.2) acc
    unfold mulRow at *
    rw [List.foldl_cons, nrm_cons, Nat.mul_add]
    rw [Int.natAbs_mul] at j
    unfold mulStep at i
    unfold mulStep
    omega
theorem nrm_mulR (gs : List Tm) : ∀ (fs acc : List Tm), nrm (fs.foldl (mulRow gs) acc) ≤ nrm acc + nrm fs * nrm gs
  | [], acc => by rw [List.foldl_nil]; omega
  | a :: fs, acc => by
    have i := nrm_mulR gs fs (mulRow gs acc a)
    have j := nrm_mulRow a gs acc
    rw [List.foldl_cons, nrm_cons, Nat.add_mul]
    omega
theorem nrm_addS (n : Int) : ∀ (rs acc : List Tm), nrm (rs.foldl (addS n) acc) ≤ nrm acc + n.natAbs * nrm rs
  | [], acc => by rw [List.foldl_nil]; omega
  | r :: rs, acc => by
    have i := nrm_addS n rs (addS n acc r)
    have j := nrm_putS r.1 (r.2 * n) acc
    rw [Int.natAbs_mul] at j
    rw [List.foldl_cons, nrm_cons, Nat.mul_add, Nat.mul_comm n.natAbs]
    unfold addS at i
    unfold addS
    omega
theorem nrm_times (n : Int) : ∀ rs : List Tm, nrm (rs.map fun r => (r.1, r.2 * n)) = n.natAbs * nrm rs
  | [] => rfl
  | r :: rs => by
    rw [List.map_cons, nrm_cons, nrm_cons, nrm_times n rs, Nat.mul_add]
    show (r.2 * n).natAbs + _ = _
    rw [Int.natAbs_mul, Nat.mul_comm]
theorem nrm_neg : ∀ rs : List Tm, nrm (rs.map fun r => (r.1, 0 - r.2)) = nrm rs
  | [] => rfl
  | r :: rs => by
    rw [List.map_cons, nrm_cons, nrm_cons, nrm_neg rs]
    show (0 - r.2).natAbs + _ = _
    omega
/-! ### keys -/
theorem mulRow_keys {a : Tm} {P : List Str → Prop} : ∀ {gs acc : List Tm}, (∀ p ∈ acc.map (·.1), P p) → (∀ b ∈ gs, P (srt (a.1 ++ b.1))) → ∀ p ∈ (mulRow gs acc a).map (·.1), P p
  | [], _, h, _ => h
  | b :: gs, acc, h, g => mulRow_keys (gs := gs) (acc := mulStep a acc b) (fun p hp => (putT_keys_mem hp).elim (h p) fun e => e ▸ g b (List.mem_cons_self ..)) fun c hc => g c (List.mem_cons_of_mem _ hc)
theorem mulR_keys {gs : List Tm} {P : List Str → Prop} : ∀ {fs acc : List Tm}, (∀ p ∈ acc.map (·.1), P p) → (∀ a ∈ fs, ∀ b ∈ gs, P (srt (a.1 ++ b.1))) → ∀ p ∈ (fs.foldl (mulRow gs) acc).map (·.1), P p
  | [], _, h, _ => h
  | a :: fs, acc, h, g => mulR_keys (fs := fs) (acc := mulRow gs acc a) (mulRow_keys h (g a (List.mem_cons_self ..))) fun c hc => g c (List.mem_cons_of_mem _ hc)
theorem addS_keys {n : Int} {P : List Str → Prop} : ∀ {rs acc : List Tm}, (∀ p ∈ acc.map (·.1), P p) → (∀ r ∈ rs, P r.1) → ∀ p ∈ (rs.foldl (addS n) acc).map (·.1), P p
  | [], _, h, _ => h
  | r :: rs, acc, h, g => addS_keys (rs := rs) (acc := addS n acc r) (fun p hp => (putT_keys_mem hp).elim (h p) fun e => e ▸ g r (List.mem_cons_self ..)) fun c hc => g c (List.mem_cons_of_mem _ hc)
/-! ### forms over 1 -/
/-- products of letters in order, each of at most d -/
structure PrOk (d : Nat) (p : List Str) : Prop where
  lets : ∀ w ∈ p, letB w = true
  len : p.length ≤ d
  ord : srt p = p
structure Fz (n d : Nat) (f : Fm) : Prop where
  one : f.2 = 1
  nd : (f.1.map (·.1)).Nodup
  no0 : ∀ r ∈ f.1, r.2 ≠ 0
  keys : ∀ p ∈ f.1.map (·.1), PrOk d p
  small : nrm f.1 ≤ n
theorem nrm_mem {rs : List Tm} {r : Tm} (h : r ∈ rs) : r.2.natAbs ≤ nrm rs := by
  induction rs with
  | nil => cases h
  | cons s rs ih =>
    rw [nrm_cons]
    rcases List.mem_cons.mp h with rfl | h
    · omega
    · have := ih h; omega
theorem nrm_len : ∀ {rs : List Tm}, (∀ r ∈ rs, r.2 ≠ 0) → rs.length ≤ nrm rs
  | [], _ => Nat.le_refl _
  | r :: rs, h => by
    have i := nrm_len fun s hs => h s (List.mem_cons_of_mem _ hs)
    have := h r (List.mem_cons_self ..)
    rw [nrm_cons, List.length_cons]
    omega
theorem Fz.ok {n d : Nat} {f : Fm} (h : Fz n d f) (hn : n ≤ 1000) (hd : d ≤ 1000) : FOk f := by
  have l := nrm_len h.no0
  have s := h.small
  refine ⟨h.nd, by omega, fun r hr => ?_, fun r hr => ?_, by rw [h.one]; decide, by rw [h.one]; decide⟩
  · have k := h.keys r.1 (List.mem_map_of_mem hr)
    exact ⟨k.lets, by have := k.len; omega⟩
  · have := nrm_mem hr
    have : (1000 : Nat) < 2 ^ 200 := by decide
    omega
theorem Fz.mono {n d m e : Nat} {f : Fm} (h : Fz n d f) (hn : n ≤ m) (hd : d ≤ e) : Fz m e f :=
  ⟨h.one, h.nd, h.no0, fun p hp => ⟨(h.keys p hp).lets, Nat.le_trans (h.keys p hp).len hd, (h.keys p hp).ord⟩, Nat.le_trans h.small hn⟩
theorem made_row {rs : List Tm} : madeM rs 1 = (keptM rs, 1) := by
  have p := divM_pos (rs := keptM rs) (u := 1) (by decide)
  have e : divM (keptM rs) 1 = 1 := by omega
  unfold madeM
  rw [e, Int.ediv_one]
  congr 1
  conv => rhs; rw [← List.map_id (keptM rs)]
  refine List.map_congr_left fun r _ => ?_
  rw [Int.ediv_one]
  rfl
theorem Fz.made {n d : Nat} {rs : List Tm} (nd : (rs.map (·.1)).Nodup) (keys : ∀ p ∈ rs.map (·.1), PrOk d p) (small : nrm rs ≤ n) : Fz n d (madeM rs 1) := by
  rw [made_row]
  refine ⟨rfl, kept_nd nd, fun r hr => ?_, fun p hp => ?_, Nat.le_trans (nrm_kept _) small⟩
  · have := (List.mem_filter.mp hr).2
    simpa using this
  · obtain ⟨r, hr, rfl⟩ := List.mem_map.mp hp
    exact keys _ (List.mem_map_of_mem (List.mem_filter.mp hr).1)
theorem Fz.add {n d m : Nat} {f g : Fm} (hf : Fz n d f) (hg : Fz m d g) : Fz (n + m) d (addM f g) := by
  unfold addM
  rw [hf.one, hg.one, Int.mul_one]
  unfold addR
  rw [times_eq _ _ _ hf.nd (by simp), List.nil_append]
  have ek : (f.1.map fun r => (r.1, r.2 * g.2)).map (·.1) = f.1.map (·.1) := by rw [List.map_map]; rfl
  refine Fz.made (addS_nd (by rw [ek]; exact hf.nd)) (addS_keys (by rw [ek]; exact hf.keys) fun r hr => hg.keys _ (List.mem_map_of_mem hr)) ?_
  have a := nrm_addS f.2 g.1 (f.1.map fun r => (r.1, r.2 * g.2))
  rw [nrm_times, hf.one, hg.one] at a
  rw [hf.one, hg.one]
  have := hf.small
  have := hg.small
  simp only [Int.natAbs_one, Nat.one_mul] at a
  omega
theorem lin_add {φ : List Str → Int} {n d m e : Nat} {f g : Fm} (hf : Fz n d f) (hg : Fz m e g) : lin φ (addM f g).1 = lin φ f.1 + lin φ g.1 := by
  unfold addM
  rw [hf.one, hg.one, Int.mul_one, made_row]
  show lin φ (keptM _) = _
  rw [lin_kept, lin_addR φ hf.nd, hf.one, hg.one, Int.one_mul, Int.one_mul]
theorem Fz.neg {n d : Nat} {f : Fm} (hf : Fz n d f) : Fz n d (negM f) := by
  have ek : (f.1.map fun r => (r.1, 0 - r.2)).map (·.1) = f.1.map (·.1) := by rw [List.map_map]; rfl
  refine ⟨hf.one, by show ((f.1.map fun r => (r.1, 0 - r.2)).map (·.1)).Nodup; rw [ek]; exact hf.nd, fun r hr => ?_, fun p hp => ?_, ?_⟩
  · obtain ⟨s, hs, rfl⟩ := List.mem_map.mp hr
    have := hf.no0 s hs
    show 0 - s.2 ≠ 0
    omega
  · rw [show (negM f).1 = f.1.map fun r => (r.1, 0 - r.2) from rfl, ek] at hp
    exact hf.keys p hp
  · show nrm (f.1.map fun r => (r.1, 0 - r.2)) ≤ n
    rw [nrm_neg]
    exact hf.small
theorem lin_negM {φ : List Str → Int} (f : Fm) : lin φ (negM f).1 = 0 - lin φ f.1 := lin_neg φ f.1
theorem Fz.mul {n d m e : Nat} {f g : Fm} (hf : Fz n d f) (hg : Fz m e g) : Fz (n * m) (d + e) (mulM f g) := by
  unfold mulM
  rw [hf.one, hg.one, Int.mul_one]
  obtain ⟨nd, _⟩ := mulR_ok (gs := g.1) (fs := f.1) (acc := []) (by simp)
  refine Fz.made nd (mulR_keys (by simp) fun a ha b hb => ?_) ?_
  · have ka := hf.keys _ (List.mem_map_of_mem ha)
    have kb := hg.keys _ (List.mem_map_of_mem hb)
    refine ⟨fun w hw => ?_, ?_, srt_srt _⟩
    · rcases List.mem_append.mp (mem_srt.mp hw) with z | z
      · exact ka.lets w z
      · exact kb.lets w z
    · rw [srt_len, List.length_append]
      have := ka.len
      have := kb.len
      omega
  · have a := nrm_mulR g.1 f.1 []
    have b := Nat.mul_le_mul hf.small hg.small
    have c : nrm ([] : List Tm) = 0 := rfl
    show nrm (f.1.foldl (mulRow g.1) []) ≤ n * m
    omega
theorem lin_mul {φ : List Str → Int} {n d m e : Nat} {f g : Fm} (hf : Fz n d f) (hg : Fz m e g) : lin φ (mulM f g).1 = lin (fun p => lin (fun q => φ (srt (p ++ q))) g.1) f.1 := by
  unfold mulM
  rw [hf.one, hg.one, Int.mul_one, made_row]
  show lin φ (keptM _) = _
  rw [lin_kept]
  unfold mulR
  rw [lin_mulR, lin_nil, Int.zero_add]
/-! ### one product, one number -/
theorem Fz.mono1 {l : List Str} {d : Nat} (h : ∀ w ∈ l, letB w = true) (hd : l.length ≤ d) : Fz 1 d (monoM l) := by
  refine ⟨rfl, by simp [monoM], fun r hr => ?_, fun p hp => ?_, Nat.le_refl _⟩
  · rw [List.mem_singleton.mp hr]
    exact (by decide : (1 : Int) ≠ 0)
  · rw [List.mem_singleton.mp hp]
    exact ⟨fun w hw => h w (mem_srt.mp hw), by show (srt l).length ≤ d; rw [srt_len]; exact hd, srt_srt l⟩
theorem lin_mono {φ : List Str → Int} (l : List Str) : lin φ (monoM l).1 = φ (srt l) := by
  show lin φ [(srt l, 1)] = _
  rw [lin_cons, lin_nil, Int.one_mul, Int.add_zero]
theorem Fz.num (n : Int) : Fz n.natAbs 0 (madeM [([], n)] 1) := by
  refine Fz.made (by simp) (fun p hp => ?_) ?_
  · rw [List.mem_singleton.mp hp]
    exact ⟨by simp, Nat.le_refl _, srt_id (l := []) .nil⟩
  · rw [nrm_cons]
    exact Nat.le_refl _
theorem lin_num {φ : List Str → Int} (n : Int) : lin φ (madeM [([], n)] 1).1 = n * φ [] := by
  rw [made_row]
  show lin φ (keptM _) = _
  rw [lin_kept, lin_cons, lin_nil, Int.add_zero]
/-! ### when two forms are one -/
def eqM (f g : Fm) : Bool := sameT (rowsT f.1) (rowsT g.1) && decide (f.2 = g.2)
theorem getT_out : ∀ {rs : List Tm} {p : List Str}, p ∉ rs.map (·.1) → getT rs p = 0
  | [], _, _ => rfl
  | r :: rs, p, h => by
    unfold getT
    rw [if_neg fun e => h (by rw [← e]; exact List.mem_cons_self ..)]
    exact getT_out fun m => h (List.mem_cons_of_mem _ m)
theorem getT_mem : ∀ {rs : List Tm} {r : Tm}, (rs.map (·.1)).Nodup → r ∈ rs → getT rs r.1 = r.2
  | [], _, _, h => nomatch h
  | s :: rs, r, nd, h => by
    rw [List.map_cons, List.nodup_cons] at nd
    unfold getT
    rcases List.mem_cons.mp h with rfl | h
    · rw [if_pos rfl]
    · rw [if_neg fun e => nd.1 (by rw [e]; exact List.mem_map_of_mem h)]
      exact getT_mem nd.2 h
theorem getT_cons (r : Tm) (rs : List Tm) (p : List Str) : getT (r :: rs) p = if r.1 = p then r.2 else getT rs p := rfl
theorem lin_delta (p : List Str) : ∀ {rs : List Tm}, (rs.map (·.1)).Nodup → lin (fun q => if q = p then 1 else 0) rs = getT rs p
  | [], _ => rfl
  | r :: rs, nd => by
    rw [List.map_cons, List.nodup_cons] at nd
    rw [lin_cons, lin_delta p nd.2, getT_cons]
    by_cases e : r.1 = p
    · rw [if_pos e, if_pos e, getT_out (rs := rs) (p := p) (by rw [← e]; exact nd.1)]
      omega
    · rw [if_neg e, if_neg e]
      omega
theorem valV_row : ∀ {rs : List Tm} {r : Tm}, (rs.map (·.1)).Nodup → r ∈ rs → valV (rowsT rs) (keyT r.1) = some (.int r.2)
  | [], _, _, h => nomatch h
  | s :: rs, r, nd, h => by
    rw [List.map_cons, List.nodup_cons] at nd
    show valV ((keyT s.1, V.int s.2) :: rowsT rs) (keyT r.1) = _
    rcases List.mem_cons.mp h with rfl | h
    · rw [valV_pos rfl]
    · rw [valV_neg fun e => nd.1 (by rw [keyT_inj e]; exact List.mem_map_of_mem h)]
      exact valV_row nd.2 h
theorem eq_of_lin {n d m e : Nat} {f g : Fm} (hf : Fz n d f) (hg : Fz m e g) (h : ∀ φ, lin φ f.1 = lin φ g.1) : eqM f g = true := by
  have gt : ∀ p, getT f.1 p = getT g.1 p := fun p => by rw [← lin_delta p hf.nd, ← lin_delta p hg.nd, h]
  have sub : ∀ {f g : Fm} {n d m e : Nat}, Fz n d f → Fz m e g → (∀ p, getT f.1 p = getT g.1 p) → ∀ r ∈ f.1, r ∈ g.1 := fun {f g n d m e} hf hg gt r hr => by
    have e1 := getT_mem hf.nd hr
    have n0 := hf.no0 r hr
    by_cases k : r.1 ∈ g.1.map (·.1)
    · obtain ⟨s, hs, es⟩ := List.mem_map.mp k
      have e2 := getT_mem hg.nd hs
      have e3 : s.2 = r.2 := by rw [← e1, gt, ← es, e2]
      have : s = r := Prod.ext es e3
      rwa [← this]
    · exact absurd (by rw [← e1, gt, getT_out k]) n0
  have s1 := sub hf hg gt
  have s2 := sub hg hf fun p => (gt p).symm
  have kl : (f.1.map (·.1)).length = (g.1.map (·.1)).length := ((List.perm_ext_iff_of_nodup hf.nd hg.nd).mpr fun p => ⟨fun z => by
    obtain ⟨r, hr, rfl⟩ := List.mem_map.mp z
    exact List.mem_map_of_mem (s1 r hr), fun z => by
    obtain ⟨r, hr, rfl⟩ := List.mem_map.mp z
    exact List.mem_map_of_mem (s2 r hr)⟩).length_eq
  rw [List.length_map, List.length_map] at kl
  unfold eqM sameT
  rw [rowsT_len, rowsT_len, decide_eq_true kl, Bool.true_and, hf.one, hg.one, decide_eq_true rfl, Bool.and_true, List.all_eq_true]
  intro q hq
  obtain ⟨r, hr, rfl⟩ := List.mem_map.mp hq
  exact decide_eq_true (valV_row hg.nd (s1 r hr))
theorem lin_perm {φ : List Str → Int} {rs ss : List Tm} (p : rs.Perm ss) : lin φ rs = lin φ ss := by
  induction p with
  | nil => rfl
  | cons x _ ih => rw [lin_cons, lin_cons, ih]
  | swap x y l => rw [lin_cons, lin_cons, lin_cons, lin_cons]; omega
  | trans _ _ ih ih2 => rw [ih, ih2]
theorem eq_lin {f g : Fm} (nf : (f.1.map (·.1)).Nodup) (ng : (g.1.map (·.1)).Nodup) (h : eqM f g = true) : ∀ φ, lin φ f.1 = lin φ g.1 := by
  unfold eqM sameT at h
  rw [Bool.and_eq_true, Bool.and_eq_true, List.all_eq_true] at h
  obtain ⟨⟨hl, ha⟩, _⟩ := h
  have hl := of_decide_eq_true hl
  rw [rowsT_len, rowsT_len] at hl
  have sub : ∀ r ∈ f.1, r ∈ g.1 := fun r hr => by
    have := of_decide_eq_true (ha (keyT r.1, V.int r.2) (List.mem_map.mpr ⟨r, hr, rfl⟩))
    obtain ⟨p, hp, e1, e2⟩ := valV_mem this
    obtain ⟨s, hs, rfl⟩ := List.mem_map.mp hp
    have e1 : s.1 = r.1 := keyT_inj e1
    have e2 : s.2 = r.2 := by
      have : V.int s.2 = V.int r.2 := e2
      injection this
    have : s = r := Prod.ext e1 e2
    rwa [← this]
  have ndf : f.1.Nodup := List.Pairwise.of_map _ (fun a b ne e => ne (by rw [e])) nf
  have ndg : g.1.Nodup := List.Pairwise.of_map _ (fun a b ne e => ne (by rw [e])) ng
  have p : f.1.Perm g.1 := (List.perm_ext_iff_of_nodup ndf ndg).mpr fun r => ⟨sub r, fun hr => by
    refine Classical.byContradiction fun no => ?_
    have : (r :: f.1).length ≤ g.1.length := List.Nodup.length_le_of_subset (List.nodup_cons.mpr ⟨no, ndf⟩) fun x hx => by
      rcases List.mem_cons.mp hx with rfl | hx
      · exact hr
      · exact sub x hx
    rw [List.length_cons] at this
    omega⟩
  exact fun φ => lin_perm p
end CP

set_option Elab.async false
set_option linter.all false
set_option maxRecDepth 100000
set_option maxHeartbeats 4000000
set_option autoImplicit false
/-! an own operator between an instance and a number; an own minus -/
namespace CP
open L2 PySem PyProof.Rows
structure IntOp (K : PySem.W.Frag) (C : Addr) (nm rn : Str) (fo ro : Option Value) : Prop where
  rev : PySem.W.findIn K (.ref C) rn = some none
  one : PySem.W.findIn K (.type "int") nm = some fo
  two : PySem.W.findIn K (.type "int") rn = some ro
  sub : PySem.W.subIn K (.type "int") (.ref C) = some false
def rBinI (C : Addr) (sp : Sp) (E : XK) : R2 := fun x y H Q => ∃ a n dx fs, x = .ref a ∧ y = .int n ∧ H a = some (.ins C dx fs) ∧ sp [x, y] H (fun v H' => ∃ p, v = .ref p ∧ Q (.ref p) H') E
def rNegO (C : Addr) (sp : Sp) (E : XK) : V → Hp → VK → Prop := fun x H Q => ∃ a dx fs, x = .ref a ∧ H a = some (.ins C dx fs) ∧ sp [x] H Q E
section
variable {X : Cx} {CX : CXT} {k : Nat} {C f : Addr} {fd : FuncData} {ps : List Str} {sp : Sp} {E : XK} {nm rn : Str} {op : Operator} {fo ro : Option Value}
theorem op_binI (en : PySem.dunder op.info.2 = nm) (er : PySem.dunderR op.info.2 = rn) (O : OwnOps X.K C) (M : Meth X.K C nm f) (Z : IntOp X.K C nm rn fo ro) (F : FnOk X.prog X.w X.K X.mg X.base CX k f fd ps sp) (hr : Room (k + 1) X.A) (hb : Binds X.K fd ps []) (hx : Passes CX X E) : OpR X (binaryOp op) (rBinI C sp E) := by
  intro pins s σ H x y v u Q I rx ry h
  obtain ⟨a, n, dx, fs, rfl, rfl, ha, pr⟩ := h
  cases rx
  obtain ⟨tk, rfl⟩ := ry
  obtain ⟨mA, J, _⟩ := ins_get I.hok ha
  obtain ⟨o1, J, _⟩ := J.look
  obtain ⟨m, hF⟩ := I.fr
  cases en
  cases er
  refine PySem.W.ksp_binT (op := op) hF I.ok.mod.kin J rfl O.first M.at_ M.fn Z.rev (.inl rfl) Z.one Z.two Z.sub ?_
  have hl := F.len _ _ _ _ pr
  have r2 : Vals [V.ref a, V.int n] [Value.ref a, Value.int n tk] := .cons rfl (.cons ⟨tk, rfl⟩ .nil)
  refine wpAny_call (codeAny_mono (F.run X.A X.stack s H ⟨[.ref a, .int n tk], []⟩ [.ref a, .int n tk] [.ref a, .int n] _ E (hr.mono (by omega)) I.env0 (by
    have z := hb s [.ref a, .int n tk] I.kIn (by simpa using hl)
    simpa using z) r2 pr) fun r s' z => ?_)
  match r, z with
  | .error e, z => exact hx pins σ H s e s' I z
  | .ok (.ret t), z =>
    obtain ⟨zv, H', I', rz, p, ep, q⟩ := I.after z
    subst ep
    cases rz
    exact ⟨.ref p, H', I', rfl, q⟩
theorem un_negO (M : Meth X.K C "__neg__" f) (F : FnOk X.prog X.w X.K X.mg X.base CX k f fd ps sp) (hr : Room (k + 1) X.A) (hb : Binds X.K fd ps []) (hx : Passes CX X E) : UnR X (unaryOp .USub) (rNegO C sp E) := by
  intro pins s σ H x v Q I rx h
  obtain ⟨a, dx, fs, rfl, ha, pr⟩ := h
  cases rx
  obtain ⟨mA, J, _⟩ := ins_get I.hok ha
  obtain ⟨o1, J, _⟩ := J.look
  obtain ⟨m, hF⟩ := I.fr
  refine PySem.W.ksp_neg hF I.ok.mod.kin J M.at_ M.fn ?_
  have hl := F.len _ _ _ _ pr
  refine wpAny_call (codeAny_mono (F.run X.A X.stack s H ⟨[.ref a], []⟩ [.ref a] [.ref a] _ E (hr.mono (by omega)) I.env0 (by
    have z := hb s [.ref a] I.kIn (by simpa using hl)
    simpa using z) (.cons rfl .nil) pr) fun r s' z => ?_)
  match r, z with
  | .error e, z => exact hx pins σ H s e s' I z
  | .ok (.ret t), z => exact I.after z
end
end CP

set_option Elab.async false
set_option linter.all false
set_option maxRecDepth 100000
set_option maxHeartbeats 4000000
set_option autoImplicit false
/-! forms over any divisor: how great, and what they are worth -/
namespace CP
open L2 PySem PyProof.Rows
/-! ### the divisor is divided out -/
theorem divM_dvd : ∀ (rs : List Tm) (u : Int), divM rs u ∣ u ∧ ∀ r ∈ rs, divM rs u ∣ r.2
  | [], u => ⟨Int.dvd_refl u, by simp⟩
  | r :: rs, u => by
    obtain ⟨h1, h2⟩ := divM_dvd rs (Int.gcd u r.2 : Nat)
    have e : divM (r :: rs) u = divM rs (Int.gcd u r.2 : Nat) := rfl
    rw [e]
    refine ⟨Int.dvd_trans h1 (Int.gcd_dvd_left ..), fun s hs => ?_⟩
    rcases List.mem_cons.mp hs with rfl | hs
    · exact Int.dvd_trans h1 (Int.gcd_dvd_right ..)
    · exact h2 s hs
theorem lin_ediv (φ : List Str → Int) (g : Int) : ∀ rs : List Tm, (∀ r ∈ rs, g ∣ r.2) → lin φ (rs.map fun r => (r.1, r.2 / g)) * g = lin φ rs
  | [], _ => by rw [List.map_nil, lin_nil, Int.zero_mul]
  | r :: rs, h => by
    have i := lin_ediv φ g rs fun s hs => h s (List.mem_cons_of_mem _ hs)
    have e := Int.ediv_mul_cancel (h r (List.mem_cons_self ..))
    rw [List.map_cons, lin_cons, lin_cons, Int.add_mul, i]
    congr 1
    show r.2 / g * φ r.1 * g = _
    rw [Int.mul_right_comm, e]
theorem made_lin (φ : List Str → Int) {rs : List Tm} {u : Int} : lin φ (madeM rs u).1 * u = lin φ rs * (madeM rs u).2 := by
  obtain ⟨d1, d2⟩ := divM_dvd (keptM rs) u
  have e1 := lin_ediv φ (divM (keptM rs) u) (keptM rs) d2
  have e2 := Int.ediv_mul_cancel d1
  rw [lin_kept] at e1
  show lin φ ((keptM rs).map fun r => (r.1, r.2 / divM (keptM rs) u)) * u = lin φ rs * (u / divM (keptM rs) u)
  generalize lin φ ((keptM rs).map fun r => (r.1, r.2 / divM (keptM rs) u)) = A at *
  generalize u / divM (keptM rs) u = B at *
  generalize divM (keptM rs) u = g at *
  rw [← e1, ← e2]
  grind
theorem nrm_ediv {g : Int} (hg : 0 < g) : ∀ rs : List Tm, nrm (rs.map fun r => (r.1, r.2 / g)) ≤ nrm rs
  | [] => Nat.le_refl _
  | r :: rs => by
    have i := nrm_ediv hg rs
    rw [List.map_cons, nrm_cons, nrm_cons]
    have : (r.2 / g).natAbs ≤ r.2.natAbs := Int.natAbs_ediv_le_natAbs ..
    show (r.2 / g).natAbs + _ ≤ _
    omega
/-- what is known of a form: letters among L, at most t terms, degree at most d, norm below 2 ^ b, divisor below 2 ^ e -/
structure Fq (L : List Str) (t d b e : Nat) (f : Fm) : Prop where
  nd : (f.1.map (·.1)).Nodup
  no0 : ∀ r ∈ f.1, r.2 ≠ 0
  keys : ∀ p ∈ f.1.map (·.1), (∀ w ∈ p, w ∈ L) ∧ p.length ≤ d ∧ srt p = p
  len : f.1.length ≤ t
  small : nrm f.1 < 2 ^ b
  pos : 0 < f.2
  den : f.2 < ((2 ^ e : Nat) : Int)
theorem pow_up {a b : Nat} (h : a ≤ b) : 2 ^ a ≤ 2 ^ b := Nat.pow_le_pow_right (by decide) h
theorem Fq.up {L M : List Str} {t d b e t' d' b' e' : Nat} {f : Fm} (h : Fq L t d b e f) (hL : ∀ w ∈ L, w ∈ M) (ht : t ≤ t') (hd : d ≤ d') (hb : b ≤ b') (he : e ≤ e') : Fq M t' d' b' e' f :=
  ⟨h.nd, h.no0, fun p hp => ⟨fun w hw => hL w ((h.keys p hp).1 w hw), Nat.le_trans (h.keys p hp).2.1 hd, (h.keys p hp).2.2⟩, Nat.le_trans h.len ht, Nat.lt_of_lt_of_le h.small (pow_up hb), h.pos, Int.lt_of_lt_of_le h.den (Int.ofNat_le.mpr (pow_up he))⟩
theorem Fq.ok {L : List Str} {t d b e : Nat} {f : Fm} (h : Fq L t d b e f) (hL : ∀ w ∈ L, letB w = true) (ht : t ≤ 1000) (hd : d ≤ 1000) (hb : b ≤ 200) (he : e ≤ 200) : FOk f := by
  refine ⟨h.nd, Nat.le_trans h.len ht, fun r hr => ?_, fun r hr => ?_, h.pos, ?_⟩
  · have k := h.keys r.1 (List.mem_map_of_mem hr)
    exact ⟨fun w hw => hL w (k.1 w hw), by have := k.2.1; omega⟩
  · have := nrm_mem hr
    have := h.small
    have := pow_up hb
    omega
  · have := h.den
    have := pow_up he
    omega
theorem Fq.made {L : List Str} {t d b e : Nat} {rs : List Tm} {u : Int} (nd : (rs.map (·.1)).Nodup) (keys : ∀ p ∈ rs.map (·.1), (∀ w ∈ p, w ∈ L) ∧ p.length ≤ d ∧ srt p = p) (len : rs.length ≤ t) (small : nrm rs < 2 ^ b) (pos : 0 < u) (den : u < ((2 ^ e : Nat) : Int)) : Fq L t d b e (madeM rs u) := by
  obtain ⟨g1, g2⟩ := divM_pos (rs := keptM rs) pos
  obtain ⟨d1, d2⟩ := divM_dvd (keptM rs) u
  have ek : ((keptM rs).map fun r => (r.1, r.2 / divM (keptM rs) u)).map (·.1) = (keptM rs).map (·.1) := by rw [List.map_map]; rfl
  refine ⟨?_, fun r hr => ?_, fun p hp => ?_, ?_, ?_, ?_, ?_⟩
  · show (((keptM rs).map fun r => (r.1, r.2 / divM (keptM rs) u)).map (·.1)).Nodup
    rw [ek]
    exact kept_nd nd
  · obtain ⟨s, hs, rfl⟩ := List.mem_map.mp hr
    have n0 : s.2 ≠ 0 := by simpa using (List.mem_filter.mp hs).2
    have e := Int.ediv_mul_cancel (d2 s hs)
    intro z
    have z : s.2 / divM (keptM rs) u = 0 := z
    rw [z, Int.zero_mul] at e
    exact n0 e.symm
  · have hp : p ∈ ((keptM rs).map fun r => (r.1, r.2 / divM (keptM rs) u)).map (·.1) := hp
    rw [ek] at hp
    obtain ⟨r, hr, rfl⟩ := List.mem_map.mp hp
    exact keys _ (List.mem_map_of_mem (List.mem_filter.mp hr).1)
  · show ((keptM rs).map fun r => (r.1, r.2 / divM (keptM rs) u)).length ≤ t
    rw [List.length_map]
    exact Nat.le_trans (kept_len rs) len
  · have := nrm_ediv g1 (keptM rs)
    have := nrm_kept rs
    show nrm ((keptM rs).map fun r => (r.1, r.2 / divM (keptM rs) u)) < 2 ^ b
    omega
  · show 0 < u / divM (keptM rs) u
    exact Int.ediv_pos_of_pos_of_dvd pos (by omega) d1
  · have := Int.ediv_le_self (divM (keptM rs) u) (show 0 ≤ u by omega)
    show u / divM (keptM rs) u < _
    omega
theorem Fq.add {L : List Str} {t1 t2 d b1 b2 b e1 e2 : Nat} {f g : Fm} (hf : Fq L t1 d b1 e1 f) (hg : Fq L t2 d b2 e2 g) (h1 : b1 + e2 < b) (h2 : b2 + e1 < b) : Fq L (t1 + t2) d b (e1 + e2) (addM f g) := by
  have ek : (f.1.map fun r => (r.1, r.2 * g.2)).map (·.1) = f.1.map (·.1) := by rw [List.map_map]; rfl
  have te : f.1.foldl (timesS g.2) [] = f.1.map fun r => (r.1, r.2 * g.2) := by rw [times_eq _ _ _ hf.nd (by simp), List.nil_append]
  have fp := hf.pos
  have gp := hg.pos
  have ed : f.2 * g.2 < ((2 ^ (e1 + e2) : Nat) : Int) := by
    have a := hf.den
    have c := hg.den
    rw [Nat.pow_add, Int.natCast_mul]
    exact Int.mul_lt_mul a (by omega) gp (by omega)
  unfold addM addR
  rw [te]
  refine Fq.made (addS_nd (by rw [ek]; exact hf.nd)) (addS_keys (by rw [ek]; exact hf.keys) fun r hr => hg.keys _ (List.mem_map_of_mem hr)) ?_ ?_ (Int.mul_pos fp gp) ed
  · have := addS_len (n := f.2) (rs := g.1) (acc := f.1.map fun r => (r.1, r.2 * g.2))
    rw [List.length_map] at this
    have := hf.len
    have := hg.len
    omega
  · have a := nrm_addS f.2 g.1 (f.1.map fun r => (r.1, r.2 * g.2))
    rw [nrm_times] at a
    have c1 : g.2.natAbs * nrm f.1 < 2 ^ (b1 + e2) := by
      rw [Nat.mul_comm, Nat.pow_add]
      have := hf.small
      have : g.2.natAbs < 2 ^ e2 := by have := hg.den; omega
      exact Nat.mul_lt_mul'' hf.small this
    have c2 : f.2.natAbs * nrm g.1 < 2 ^ (b2 + e1) := by
      rw [Nat.mul_comm, Nat.pow_add]
      have : f.2.natAbs < 2 ^ e1 := by have := hf.den; omega
      exact Nat.mul_lt_mul'' hg.small this
    have p1 : 2 ^ (b1 + e2) ≤ 2 ^ (b - 1) := pow_up (by omega)
    have p2 : 2 ^ (b2 + e1) ≤ 2 ^ (b - 1) := pow_up (by omega)
    have p3 : 2 ^ b = 2 ^ (b - 1) * 2 := by rw [← Nat.pow_succ]; congr 1; omega
    omega
theorem Fq.mul {L : List Str} {t1 t2 d1 d2 b1 b2 e1 e2 : Nat} {f g : Fm} (hf : Fq L t1 d1 b1 e1 f) (hg : Fq L t2 d2 b2 e2 g) : Fq L (t1 * t2) (d1 + d2) (b1 + b2) (e1 + e2) (mulM f g) := by
  obtain ⟨nd, hl⟩ := mulR_ok (gs := g.1) (fs := f.1) (acc := []) (by simp)
  have fp := hf.pos
  have gp := hg.pos
  have ed : f.2 * g.2 < ((2 ^ (e1 + e2) : Nat) : Int) := by
    have a := hf.den
    have c := hg.den
    rw [Nat.pow_add, Int.natCast_mul]
    exact Int.mul_lt_mul a (by omega) gp (by omega)
  unfold mulM
  refine Fq.made nd (mulR_keys (by simp) fun a ha b hb => ?_) ?_ ?_ (Int.mul_pos fp gp) ed
  · have ka := hf.keys _ (List.mem_map_of_mem ha)
    have kb := hg.keys _ (List.mem_map_of_mem hb)
    refine ⟨fun w hw => ?_, ?_, srt_srt _⟩
    · rcases List.mem_append.mp (mem_srt.mp hw) with z | z
      · exact ka.1 w z
      · exact kb.1 w z
    · rw [srt_len, List.length_append]
      have := ka.2.1
      have := kb.2.1
      omega
  · have := Nat.mul_le_mul hf.len hg.len
    have : (mulR f.1 g.1).length ≤ ([] : List Tm).length + f.1.length * g.1.length := hl
    simp only [List.length_nil] at this
    omega
  · have a := nrm_mulR g.1 f.1 []
    have c : nrm ([] : List Tm) = 0 := rfl
    have m := Nat.mul_lt_mul'' hf.small hg.small
    rw [← Nat.pow_add] at m
    show nrm (f.1.foldl (mulRow g.1) []) < _
    omega
theorem Fq.neg {L : List Str} {t d b e : Nat} {f : Fm} (hf : Fq L t d b e f) : Fq L t d b e (negM f) := by
  have ek : (f.1.map fun r => (r.1, 0 - r.2)).map (·.1) = f.1.map (·.1) := by rw [List.map_map]; rfl
  refine ⟨by show ((f.1.map fun r => (r.1, 0 - r.2)).map (·.1)).Nodup; rw [ek]; exact hf.nd, fun r hr => ?_, fun p hp => ?_, ?_, ?_, hf.pos, hf.den⟩
  · obtain ⟨s, hs, rfl⟩ := List.mem_map.mp hr
    have := hf.no0 s hs
    show 0 - s.2 ≠ 0
    omega
  · rw [show (negM f).1 = f.1.map fun r => (r.1, 0 - r.2) from rfl, ek] at hp
    exact hf.keys p hp
  · show (f.1.map fun r => (r.1, 0 - r.2)).length ≤ t
    rw [List.length_map]
    exact hf.len
  · show nrm (f.1.map fun r => (r.1, 0 - r.2)) < _
    rw [nrm_neg]
    exact hf.small
/-- divided by a whole number -/
def overM (f : Fm) (n : Int) : Fm := madeM (if 0 < n then f else negM f).1 (f.2 * (n.natAbs : Int))
theorem Fq.over {L : List Str} {t d b e k : Nat} {f : Fm} {n : Int} (hf : Fq L t d b e f) (n0 : n ≠ 0) (nk : n.natAbs < 2 ^ k) : Fq L t d b (e + k) (overM f n) := by
  have hg : Fq L t d b e (if 0 < n then f else negM f) := by
    split
    · exact hf
    · exact hf.neg
  have fp := hf.pos
  refine Fq.made hg.nd hg.keys hg.len hg.small (Int.mul_pos fp (by omega)) ?_
  rw [Nat.pow_add, Int.natCast_mul]
  have n1 : (n.natAbs : Int) < ((2 ^ k : Nat) : Int) := by omega
  exact Int.mul_lt_mul hf.den (by omega) (by omega) (Int.natCast_nonneg _)
theorem Fq.num {L : List Str} (n : Int) {b : Nat} (h : n.natAbs < 2 ^ b) : Fq L 1 0 b 1 (madeM [([], n)] 1) := by
  refine Fq.made (by simp) (fun p hp => ?_) (Nat.le_refl _) ?_ (by decide) (by decide)
  · rw [List.mem_singleton.mp hp]
    exact ⟨by simp, Nat.le_refl _, srt_id (l := []) .nil⟩
  · rw [nrm_cons]
    exact h
theorem Fq.one {L : List Str} {w : Str} (h : w ∈ L) : Fq L 1 1 1 1 (monoM [w]) := by
  have e : srt [w] = [w] := srt_id (l := [w]) (by simp)
  refine ⟨by simp [monoM], fun r hr => ?_, fun p hp => ?_, Nat.le_refl _, by show nrm [(srt [w], 1)] < 2; rw [nrm_cons]; show 1 + 0 < 2; omega, by show (0 : Int) < 1; decide, by show (1 : Int) < 2; decide⟩
  · rw [List.mem_singleton.mp hr]
    exact (by decide : (1 : Int) ≠ 0)
  · rw [List.mem_singleton.mp hp]
    show (∀ v ∈ srt [w], v ∈ L) ∧ (srt [w]).length ≤ 1 ∧ srt (srt [w]) = srt [w]
    rw [e, e]
    exact ⟨fun v hv => by rw [List.mem_singleton.mp hv]; exact h, Nat.le_refl _, rfl⟩
theorem Fq.letters {L : List Str} {t d b e : Nat} {f : Fm} (hf : Fq L t d b e f) (nd : L.Nodup) : (sset (f.1.flatMap fun r => r.1)).length ≤ L.length :=
  List.Nodup.length_le_of_subset (sset_nodup _) fun w hw => by
    obtain ⟨r, hr, k⟩ := List.mem_flatMap.mp (mem_sset.mp hw)
    exact (hf.keys r.1 (List.mem_map_of_mem hr)).1 w k
/-! ### what forms are worth at values -/
/-- the form is worth a / w -/
def Worth (v : Str → Int) (f : Fm) (a w : Int) : Prop := 0 < w ∧ lin (prodF v) f.1 * w = a * f.2
theorem prodS {v : Str → Int} {l : List Str} : prodF v (srt l) = prodF v l := prodF_perm (srt_perm l)
theorem Worth.num (v : Str → Int) (n : Int) : Worth v (madeM [([], n)] 1) n 1 := by
  refine ⟨by decide, ?_⟩
  rw [lin_num, made_row]
  show n * 1 * 1 = n * 1
  omega
theorem Worth.one (v : Str → Int) (w : Str) : Worth v (monoM [w]) (v w) 1 := by
  refine ⟨by decide, ?_⟩
  rw [lin_mono, prodS]
  show prodF v [w] * 1 = v w * 1
  rw [prodF_cons]
  show v w * prodF v [] * 1 = _
  rw [show prodF v [] = 1 from rfl, Int.mul_one]
theorem Worth.neg {v : Str → Int} {f : Fm} {a w : Int} (h : Worth v f a w) : Worth v (negM f) (0 - a) w := by
  obtain ⟨w0, h⟩ := h
  refine ⟨w0, ?_⟩
  rw [lin_negM]
  show _ = (0 - a) * f.2
  grind
theorem cancelF {x y c : Int} (h : x * c = y * c) (n : 0 < c) : x = y := Int.eq_of_mul_eq_mul_right (by omega) h
theorem Worth.add {v : Str → Int} {f g : Fm} {a w b x : Int} (nd : (f.1.map (·.1)).Nodup) (fp : 0 < f.2) (gp : 0 < g.2) (h : Worth v f a w) (k : Worth v g b x) : Worth v (addM f g) (a * x + b * w) (w * x) := by
  obtain ⟨w0, h⟩ := h
  obtain ⟨x0, k⟩ := k
  refine ⟨Int.mul_pos w0 x0, ?_⟩
  have e : lin (prodF v) (addM f g).1 * (f.2 * g.2) = lin (prodF v) (addR f g) * (addM f g).2 := made_lin (prodF v)
  rw [lin_addR (prodF v) nd] at e
  refine cancelF ?_ (Int.mul_pos fp gp)
  generalize lin (prodF v) (addM f g).1 = A at *
  generalize (addM f g).2 = S at *
  generalize lin (prodF v) f.1 = M at *
  generalize lin (prodF v) g.1 = N at *
  generalize f.2 = F at *
  generalize g.2 = G at *
  grind
theorem lin_mulRF {v : Str → Int} (fs gs : List Tm) : lin (prodF v) (mulR fs gs) = lin (prodF v) fs * lin (prodF v) gs := by
  have e1 : ∀ (p : List Str) (gs : List Tm), lin (fun q => prodF v (srt (p ++ q))) gs = prodF v p * lin (prodF v) gs := fun p gs => by
    induction gs with
    | nil => rw [lin_nil, lin_nil, Int.mul_zero]
    | cons r gs ih =>
      rw [lin_cons, lin_cons, ih, prodS, prodF_append]
      grind
  unfold mulR
  rw [lin_mulR, lin_nil, Int.zero_add]
  induction fs with
  | nil => rw [lin_nil, lin_nil, Int.zero_mul]
  | cons r fs ih =>
    rw [lin_cons, lin_cons, ih, e1]
    grind
theorem Worth.mul {v : Str → Int} {f g : Fm} {a w b x : Int} (fp : 0 < f.2) (gp : 0 < g.2) (h : Worth v f a w) (k : Worth v g b x) : Worth v (mulM f g) (a * b) (w * x) := by
  obtain ⟨w0, h⟩ := h
  obtain ⟨x0, k⟩ := k
  refine ⟨Int.mul_pos w0 x0, ?_⟩
  have e : lin (prodF v) (mulM f g).1 * (f.2 * g.2) = lin (prodF v) (mulR f.1 g.1) * (mulM f g).2 := made_lin (prodF v)
  rw [lin_mulRF] at e
  refine cancelF ?_ (Int.mul_pos fp gp)
  generalize lin (prodF v) (mulM f g).1 = A at *
  generalize (mulM f g).2 = S at *
  generalize lin (prodF v) f.1 = M at *
  generalize lin (prodF v) g.1 = N at *
  generalize f.2 = F at *
  generalize g.2 = G at *
  grind
theorem Worth.over {v : Str → Int} {f : Fm} {a w n : Int} (fp : 0 < f.2) (n0 : n ≠ 0) (h : Worth v f a w) : Worth v (overM f n) (if 0 < n then a else 0 - a) (w * (n.natAbs : Int)) := by
  have hm : 0 < (n.natAbs : Int) := by omega
  have h2 : Worth v (if 0 < n then f else negM f) (if 0 < n then a else 0 - a) w := by
    split
    · exact h
    · exact h.neg
  have e2 : (if 0 < n then f else negM f).2 = f.2 := by split <;> rfl
  obtain ⟨w0, h2⟩ := h2
  rw [e2] at h2
  refine ⟨Int.mul_pos w0 hm, ?_⟩
  have e : lin (prodF v) (overM f n).1 * (f.2 * (n.natAbs : Int)) = lin (prodF v) (if 0 < n then f else negM f).1 * (overM f n).2 := made_lin (prodF v)
  refine cancelF ?_ (Int.mul_pos fp hm)
  generalize lin (prodF v) (overM f n).1 = A at *
  generalize (overM f n).2 = S at *
  generalize lin (prodF v) (if 0 < n then f else negM f).1 = M at *
  generalize (n.natAbs : Int) = m at *
  generalize (if 0 < n then a else 0 - a) = b at *
  generalize f.2 = F at *
  grind
/-- the whole number that a fraction is, or None -/
def wholeV (a w : Int) : V := if a % w = 0 then .int (a / w) else .non
theorem whole_same {A u a w : Int} (u0 : 0 < u) (w0 : 0 < w) (h : A * w = a * u) : wholeV A u = wholeV a w := by
  unfold wholeV
  by_cases k : A % u = 0
  · have e := Int.ediv_mul_cancel (Int.dvd_of_emod_eq_zero k)
    have ea : a = A / u * w := by
      refine cancelF ?_ u0
      rw [← h]
      generalize A / u = z at e ⊢
      rw [← e]
      grind
    have k2 : a % w = 0 := by rw [ea]; exact Int.mul_emod_left ..
    rw [if_pos k, if_pos k2]
    congr 1
    conv => rhs; rw [ea]
    exact (Int.mul_ediv_cancel _ (by omega)).symm
  · have k2 : ¬ a % w = 0 := fun z => k (by
      have e := Int.ediv_mul_cancel (Int.dvd_of_emod_eq_zero z)
      have ea : A = a / w * u := by
        refine cancelF ?_ w0
        rw [h]
        generalize a / w = y at e ⊢
        rw [← e]
        grind
      rw [ea]
      exact Int.mul_emod_left ..)
    rw [if_neg k, if_neg k2]
/-- great products -/
theorem prodF_abs {v : Str → Int} {k : Nat} : ∀ {l : List Str}, (∀ w ∈ l, (v w).natAbs ≤ 2 ^ k) → (prodF v l).natAbs ≤ 2 ^ (k * l.length)
  | [], _ => by show (1 : Int).natAbs ≤ _; rw [List.length_nil, Nat.mul_zero]; decide
  | w :: l, h => by
    have i := prodF_abs (l := l) fun x hx => h x (List.mem_cons_of_mem _ hx)
    rw [prodF_cons, Int.natAbs_mul, List.length_cons, Nat.mul_add, Nat.mul_one, Nat.add_comm, Nat.pow_add]
    exact Nat.mul_le_mul (h w (List.mem_cons_self ..)) i
theorem Fq.parts {L : List Str} {t d b e k m : Nat} {f : Fm} {v : Str → Int} (hf : Fq L t d b e f) (hv : ∀ w ∈ L, (v w).natAbs ≤ 2 ^ k) (hm : b + k * d ≤ m) : ∀ r ∈ f.1, ∀ j, (r.2 * prodF v (r.1.take j)).natAbs < 2 ^ m := fun r hr j => by
  have k1 := hf.keys r.1 (List.mem_map_of_mem hr)
  have k2 := prodF_abs (v := v) (k := k) (l := r.1.take j) fun w hw => hv w (k1.1 w (List.mem_of_mem_take hw))
  have k3 : (r.1.take j).length ≤ d := by rw [List.length_take]; have := k1.2.1; omega
  have k4 := nrm_mem hr
  have k5 := hf.small
  have k6 : 2 ^ (k * (r.1.take j).length) ≤ 2 ^ (k * d) := pow_up (Nat.mul_le_mul_left _ k3)
  have k7 : 0 < 2 ^ (k * d) := Nat.pow_pos (by decide)
  rw [Int.natAbs_mul]
  have k8 : r.2.natAbs * (prodF v (r.1.take j)).natAbs ≤ r.2.natAbs * 2 ^ (k * d) := Nat.mul_le_mul_left _ (by omega)
  have k9 : r.2.natAbs * 2 ^ (k * d) < 2 ^ b * 2 ^ (k * d) := Nat.mul_lt_mul_of_pos_right (by omega) k7
  rw [← Nat.pow_add] at k9
  have := pow_up hm
  omega
end CP

set_option Elab.async false
set_option linter.all false
set_option maxRecDepth 100000
set_option maxHeartbeats 4000000
set_option autoImplicit false
/-! texts put together sign by sign -/
namespace CP
open L2 PySem PyProof.Rows
def rAddSt : R2 := fun x y H Q => ∃ i j, x = .str i ∧ y = .str j ∧ i.length + j.length ≤ sizeLine ∧ Q (.str (i ++ j)) H
theorem op_addS {X : Cx} : OpR X (binaryOp .Add) rAddSt := op_add_str
theorem r_addSt {i j : Str} {H : Hp} {Q : VK} (h : i.length + j.length ≤ sizeLine) (q : Q (.str (i ++ j)) H) : rAddSt (.str i) (.str j) H Q := ⟨i, j, rfl, rfl, h, q⟩
theorem r_ixSS {z : Str} {i : Int} {c : Nat} {H : Hp} {Q : VK} (h : z.length ≤ sizeLine) (a : atI z.cps.toList i = some c) (q : Q (.str ⟨#[c]⟩) H) : rIxS (.str z) (.int i) H Q := ⟨z, i, c, rfl, rfl, h, a, q⟩
/-- a sign of the small letters -/
theorem small_at {i : Int} (h0 : 0 ≤ i) (h1 : i < 26) : ∃ c, atI smallT.cps.toList i = some c ∧ c ∈ smallT.cps.toList := by
  obtain ⟨n, rfl⟩ := Int.eq_ofNat_of_zero_le h0
  have l : smallT.cps.toList.length = 26 := by decide +kernel
  have hn : n < smallT.cps.toList.length := by omega
  exact ⟨smallT.cps.toList[n], atI_nat (List.getElem?_eq_getElem hn), List.getElem_mem hn⟩
/-- at most k small letters, at least j -/
def Wd (j k : Nat) (z : Str) : Prop := j ≤ z.cps.toList.length ∧ z.cps.toList.length ≤ k ∧ ∀ c ∈ z.cps.toList, c ∈ smallT.cps.toList
theorem Wd.add {j k : Nat} {z : Str} {c : Nat} (h : Wd j k z) (hc : c ∈ smallT.cps.toList) : Wd (j + 1) (k + 1) (z ++ (⟨#[c]⟩ : Str)) := by
  have e : (z ++ (⟨#[c]⟩ : Str)).cps.toList = z.cps.toList ++ [c] := by
    show (z.cps ++ #[c]).toList = _
    simp
  unfold Wd
  rw [e, List.length_append]
  refine ⟨by have := h.1; simp; omega, by have := h.2.1; simp; omega, fun d hd => ?_⟩
  rcases List.mem_append.mp hd with hd | hd
  · exact h.2.2 d hd
  · rw [List.mem_singleton.mp hd]; exact hc
theorem Wd.let {j k : Nat} {z : Str} (h : Wd j k z) (hj : 1 ≤ j) (hk : k ≤ 10) : letB z = true := by
  unfold letB
  obtain ⟨h1, h2, h3⟩ := h
  have l : z.length = z.cps.toList.length := by show z.cps.size = _; simp
  rw [decide_eq_true (by omega), Bool.true_and, List.all_eq_true]
  exact fun c hc => decide_eq_true (h3 c hc)
theorem Wd.ne {j k : Nat} {z y : Str} (h : Wd j k z) (hy : k < y.cps.toList.length) : z ≠ y := fun e => by
  have := h.2.1
  rw [e] at this
  omega
end CP

set_option Elab.async false
set_option linter.all false
set_option maxRecDepth 100000
set_option maxHeartbeats 4000000
set_option autoImplicit false
/-! drawn expressions: what they are worth, their forms -/
namespace CP
open L2 PySem PyProof.Rows
inductive Ow | plus | minus | times
def Ow.word : Ow → Str
  | .plus => "plus"
  | .minus => "minus"
  | .times => "times"
theorem Ow.out (o : Ow) : decide (o.word = "number") = false ∧ decide (o.word = "letter") = false ∧ decide (o.word = "divided") = false := by cases o <;> decide +kernel
theorem Ow.is (o : Ow) : (decide (o.word = "times") = match o with | .times => true | _ => false) ∧ (decide (o.word = "minus") = match o with | .minus => true | _ => false) := by cases o <;> decide +kernel
theorem w_nn : decide (("number" : Str) = "number") = true := by decide +kernel
theorem w_ln : decide (("letter" : Str) = "number") = false := by decide +kernel
theorem w_ll : decide (("letter" : Str) = "letter") = true := by decide +kernel
theorem w_dn : decide (("divided" : Str) = "number") = false := by decide +kernel
theorem w_dl : decide (("divided" : Str) = "letter") = false := by decide +kernel
theorem w_dd : decide (("divided" : Str) = "divided") = true := by decide +kernel
inductive Tr
  | num (n : Int)
  | let (w : Str)
  | div (a : Tr) (k : Int)
  | op (o : Ow) (a b : Tr)
def TrAt (H : Hp) : V → Tr → Prop
  | v, .num n => ∃ t, v = .ref t ∧ H t = some (.tup [.str "number", .int n])
  | v, .let w => ∃ t, v = .ref t ∧ H t = some (.tup [.str "letter", .str w])
  | v, .div a k => ∃ t x, v = .ref t ∧ H t = some (.tup [.str "divided", x, .int k]) ∧ TrAt H x a
  | v, .op o a b => ∃ t x y, v = .ref t ∧ H t = some (.tup [.str o.word, x, y]) ∧ TrAt H x a ∧ TrAt H y b
/-- tuples stand while a list changes -/
def TupStay (H H' : Hp) : Prop := ∀ t xs, H t = some (.tup xs) → H' t = some (.tup xs)
theorem TrAt.stay {H H' : Hp} (s : TupStay H H') : ∀ {t : Tr} {v : V}, TrAt H v t → TrAt H' v t
  | .num n, v, ⟨t, e, h⟩ => ⟨t, e, s _ _ h⟩
  | .let w, v, ⟨t, e, h⟩ => ⟨t, e, s _ _ h⟩
  | .div a k, v, ⟨t, x, e, h, h1⟩ => ⟨t, x, e, s _ _ h, TrAt.stay s h1⟩
  | .op o a b, v, ⟨t, x, y, e, h, h1, h2⟩ => ⟨t, x, y, e, s _ _ h, TrAt.stay s h1, TrAt.stay s h2⟩
theorem stay_same {H H' : Hp} (s : Same H H') : TupStay H H' := fun _ _ h => s _ _ h
theorem stay_sb {H H' : Hp} {p : Addr} {xs : List V} (hp : H p = some (.lst xs)) (s : SB p H H') : TupStay H H' := fun t ys h => s _ _ (fun e => by rw [e, hp] at h; cases h) h
/-- at most n high, letters among L, numbers below 2 ^ m -/
def TrOk (L : List Str) (m : Nat) : Nat → Tr → Prop
  | _, .num n => n.natAbs < 2 ^ m
  | _, .let w => w ∈ L
  | n + 1, .div a k => 1 ≤ k ∧ k ≤ 10 ∧ TrOk L m n a
  | n + 1, .op _ a b => TrOk L m n a ∧ TrOk L m n b
  | 0, _ => False
theorem TrOk.up {L : List Str} {m k : Nat} (h : m ≤ k) : ∀ {n : Nat} {t : Tr}, TrOk L m n t → TrOk L k (n + 1) t ∧ TrOk L k n t
  | n, .num i, z => by
    have e : 2 ^ m ≤ 2 ^ k := pow_up h
    cases n <;> exact ⟨Nat.lt_of_lt_of_le z e, Nat.lt_of_lt_of_le z e⟩
  | n, .let w, z => by cases n <;> exact ⟨z, z⟩
  | 0, .div a i, z => z.elim
  | 0, .op _ a b, z => z.elim
  | n + 1, .div a i, z => ⟨⟨z.1, z.2.1, (TrOk.up h z.2.2).1⟩, z.1, z.2.1, (TrOk.up h z.2.2).2⟩
  | n + 1, .op _ a b, z => ⟨⟨(TrOk.up h z.1).1, (TrOk.up h z.2).1⟩, (TrOk.up h z.1).2, (TrOk.up h z.2).2⟩
def worthO : Ow → Int × Int → Int × Int → Int × Int
  | .times, a, b => (a.1 * b.1, a.2 * b.2)
  | .minus, a, b => (a.1 * b.2 - b.1 * a.2, a.2 * b.2)
  | .plus, a, b => (a.1 * b.2 + b.1 * a.2, a.2 * b.2)
def worthM (v : Str → Int) : Tr → Int × Int
  | .num n => (n, 1)
  | .let w => (v w, 1)
  | .div a k => ((worthM v a).1, (worthM v a).2 * k)
  | .op o a b => worthO o (worthM v a) (worthM v b)
def formO : Ow → Fm → Fm → Fm
  | .times, f, g => mulM f g
  | .minus, f, g => addM f (negM g)
  | .plus, f, g => addM f g
def formM : Tr → Fm
  | .num n => madeM [([], n)] 1
  | .let w => monoM [w]
  | .div a k => overM (formM a) k
  | .op o a b => formO o (formM a) (formM b)
theorem one_le_two {n : Nat} : 1 ≤ 2 ^ n := Nat.one_le_two_pow
theorem TrOk.fq {L : List Str} {m : Nat} (hm : 4 ≤ m) : ∀ {n : Nat} {t : Tr}, TrOk L m n t → Fq L (2 ^ 2 ^ n) (2 ^ n) ((m + 1) * 2 ^ n) (4 * 2 ^ n) (formM t)
  | n, .num i, z => by
    have z : i.natAbs < 2 ^ m := by cases n <;> exact z
    have o := one_le_two (n := n)
    have : (m + 1) * 1 ≤ (m + 1) * 2 ^ n := Nat.mul_le_mul_left _ o
    exact (Fq.num (L := L) i z).up (fun _ h => h) one_le_two (Nat.zero_le _) (by omega) (by omega)
  | n, .let w, z => by
    have z : w ∈ L := by cases n <;> exact z
    have o := one_le_two (n := n)
    have : (m + 1) * 1 ≤ (m + 1) * 2 ^ n := Nat.mul_le_mul_left _ o
    exact (Fq.one z).up (fun _ h => h) one_le_two o (by omega) (by omega)
  | 0, .div a i, z => z.elim
  | 0, .op _ a b, z => z.elim
  | n + 1, .div a i, z => by
    have f := TrOk.fq hm z.2.2
    have o := one_le_two (n := n)
    have e : 2 ^ (n + 1) = 2 ^ n * 2 := Nat.pow_succ ..
    have g := Fq.over (n := i) (k := 4) f (by have := z.1; omega) (by have := z.1; have := z.2.1; omega)
    refine g.up (fun _ h => h) (pow_up (by omega)) (by omega) (Nat.mul_le_mul_left _ (by omega)) (by omega)
  | n + 1, .op o a b, z => by
    have f := TrOk.fq hm z.1
    have g := TrOk.fq hm z.2
    have k := one_le_two (n := n)
    have e : 2 ^ (n + 1) = 2 ^ n * 2 := Nat.pow_succ ..
    have t1 : 2 ^ 2 ^ (n + 1) = 2 ^ 2 ^ n * 2 ^ 2 ^ n := by rw [← Nat.pow_add]; congr 1; omega
    have t2 : 2 ≤ 2 ^ 2 ^ n := by
      have := pow_up (a := 1) (b := 2 ^ n) k
      omega
    have t3 : 2 ^ 2 ^ n + 2 ^ 2 ^ n ≤ 2 ^ 2 ^ n * 2 ^ 2 ^ n := by
      have := Nat.mul_le_mul_right (2 ^ 2 ^ n) t2
      omega
    have m1 : (m + 1) * 2 ^ (n + 1) = (m + 1) * 2 ^ n + (m + 1) * 2 ^ n := by rw [e]; grind
    have m2 : 5 * 2 ^ n ≤ (m + 1) * 2 ^ n := Nat.mul_le_mul_right _ (by omega)
    cases o with
    | times => exact (Fq.mul f g).up (fun _ h => h) (by omega) (by omega) (by omega) (by omega)
    | minus => exact (Fq.add (b := (m + 1) * 2 ^ (n + 1)) f g.neg (by omega) (by omega)).up (fun _ h => h) (by omega) (by omega) (Nat.le_refl _) (by omega)
    | plus => exact (Fq.add (b := (m + 1) * 2 ^ (n + 1)) f g (by omega) (by omega)).up (fun _ h => h) (by omega) (by omega) (Nat.le_refl _) (by omega)
theorem TrOk.worth {L : List Str} {m : Nat} (hm : 4 ≤ m) (v : Str → Int) : ∀ {n : Nat} {t : Tr}, TrOk L m n t → Worth v (formM t) (worthM v t).1 (worthM v t).2
  | n, .num i, _ => Worth.num v i
  | n, .let w, _ => Worth.one v w
  | 0, .div a i, z => z.elim
  | 0, .op _ a b, z => z.elim
  | n + 1, .div a i, z => by
    have f := TrOk.fq hm z.2.2
    have h := Worth.over (n := i) f.pos (by have := z.1; omega) (TrOk.worth hm v z.2.2)
    have p := z.1
    rw [if_pos (by omega), show (i.natAbs : Int) = i by omega] at h
    exact h
  | n + 1, .op o a b, z => by
    have f := TrOk.fq hm z.1
    have g := TrOk.fq hm z.2
    have h1 := TrOk.worth hm v z.1
    have h2 := TrOk.worth hm v z.2
    cases o with
    | times => exact Worth.mul f.pos g.pos h1 h2
    | plus => exact Worth.add f.nd f.pos g.pos h1 h2
    | minus =>
      have h := Worth.add f.nd f.pos g.neg.pos h1 h2.neg
      rw [show (worthM v a).1 * (worthM v b).2 + (0 - (worthM v b).1) * (worthM v a).2 = (worthM v a).1 * (worthM v b).2 - (worthM v b).1 * (worthM v a).2 by grind] at h
      exact h
theorem wmul {i j : Int} {a b c : Nat} (ha : i.natAbs < 2 ^ a) (hb : j.natAbs < 2 ^ b) (h : a + b ≤ c) : (i * j).natAbs < 2 ^ c := by
  rw [Int.natAbs_mul]
  have := Nat.mul_lt_mul'' ha hb
  rw [← Nat.pow_add] at this
  exact Nat.lt_of_lt_of_le this (pow_up h)
theorem wadd {i j : Int} {a b c : Nat} (ha : i.natAbs < 2 ^ a) (hb : j.natAbs < 2 ^ b) (h : a < c) (k : b < c) : (i + j).natAbs < 2 ^ c ∧ (i - j).natAbs < 2 ^ c := by
  have p1 : 2 ^ a ≤ 2 ^ (c - 1) := pow_up (by omega)
  have p2 : 2 ^ b ≤ 2 ^ (c - 1) := pow_up (by omega)
  have p3 : 2 ^ c = 2 ^ (c - 1) * 2 := by rw [← Nat.pow_succ]; congr 1; omega
  omega
theorem cmulW {i j : Int} {a b : Nat} (ha : i.natAbs < 2 ^ a) (hb : j.natAbs < 2 ^ b) (h0 : 0 < a) (h1 : 0 < b) (h : a + b ≤ 1000000) : CMulW i j := wide_mul ha hb h0 h1 h
/-- how great -/
theorem TrOk.low {L : List Str} {m : Nat} {v : Str → Int} (hm : m ≤ 69) (hv : ∀ w ∈ L, (v w).natAbs < 2 ^ 69) : ∀ {n : Nat} {t : Tr}, TrOk L m n t → (worthM v t).1.natAbs < 2 ^ (70 * 2 ^ n) ∧ 0 < (worthM v t).2 ∧ (worthM v t).2.natAbs < 2 ^ (4 * 2 ^ n)
  | n, .num i, z => by
    have z : i.natAbs < 2 ^ m := by cases n <;> exact z
    have o := one_le_two (n := n)
    have : 2 ^ 1 ≤ 2 ^ (4 * 2 ^ n) := pow_up (by omega)
    exact ⟨Nat.lt_of_lt_of_le z (pow_up (by omega)), by show (0 : Int) < 1; decide, by show (1 : Int).natAbs < _; simp only [Int.natAbs_one]; omega⟩
  | n, .let w, z => by
    have z : w ∈ L := by cases n <;> exact z
    have o := one_le_two (n := n)
    have : 2 ^ 1 ≤ 2 ^ (4 * 2 ^ n) := pow_up (by omega)
    exact ⟨Nat.lt_of_lt_of_le (hv w z) (pow_up (by omega)), by show (0 : Int) < 1; decide, by show (1 : Int).natAbs < _; simp only [Int.natAbs_one]; omega⟩
  | 0, .div a i, z => z.elim
  | 0, .op _ a b, z => z.elim
  | n + 1, .div a i, z => by
    obtain ⟨h1, h2, h3⟩ := TrOk.low hm hv z.2.2
    have o := one_le_two (n := n)
    have e : 2 ^ (n + 1) = 2 ^ n * 2 := Nat.pow_succ ..
    have p := z.1
    have q := z.2.1
    exact ⟨Nat.lt_of_lt_of_le h1 (pow_up (by omega)), Int.mul_pos h2 (by omega), wmul (b := 4) h3 (by omega) (by omega)⟩
  | n + 1, .op o a b, z => by
    obtain ⟨h1, h2, h3⟩ := TrOk.low hm hv z.1
    obtain ⟨k1, k2, k3⟩ := TrOk.low hm hv z.2
    have c := one_le_two (n := n)
    have e : 2 ^ (n + 1) = 2 ^ n * 2 := Nat.pow_succ ..
    have w := wmul (c := 4 * 2 ^ (n + 1)) h3 k3 (by omega)
    have x := wmul (c := 74 * 2 ^ n) h1 k3 (by omega)
    have y := wmul (c := 74 * 2 ^ n) k1 h3 (by omega)
    have s := wadd (c := 70 * 2 ^ (n + 1)) x y (by omega) (by omega)
    cases o with
    | times => exact ⟨wmul h1 k1 (by omega), Int.mul_pos h2 k2, w⟩
    | plus => exact ⟨s.1, Int.mul_pos h2 k2, w⟩
    | minus => exact ⟨s.2, Int.mul_pos h2 k2, w⟩
end CP

namespace CP
open PySem L2
def top (i : Nat) : Stmt := PySem.Challenge.pw_cellplaces_k02_forms_worked_out.main.body.getD i (.Pass ⟨0, 0, 0, 0⟩)
abbrev s_is_whole : Stmt := top 9
abbrev s_is_letter : Stmt := top 10
abbrev s_check_letter : Stmt := top 11
abbrev s_check_form : Stmt := top 12
abbrev s_are_values : Stmt := top 13
abbrev s_common : Stmt := top 14
abbrev s_made : Stmt := top 15
abbrev s_as_form : Stmt := top 16
abbrev s_Form___init : Stmt := inClass (top 17) 0
abbrev s_Form___add : Stmt := inClass (top 17) 1
abbrev s_Form___neg : Stmt := inClass (top 17) 2
abbrev s_Form___sub : Stmt := inClass (top 17) 3
abbrev s_Form___mul : Stmt := inClass (top 17) 4
abbrev s_Form_over : Stmt := inClass (top 17) 5
abbrev s_Form_letters : Stmt := inClass (top 17) 8
abbrev s_Form_above : Stmt := inClass (top 17) 11
abbrev s_Form_at : Stmt := inClass (top 17) 12
abbrev s_letter : Stmt := top 18
abbrev s_number : Stmt := top 19
abbrev s_law_purse : Stmt := top 21
abbrev s_law_mixed : Stmt := top 22
abbrev s_law_draw : Stmt := top 23
abbrev s_law_purses : Stmt := top 24
abbrev s_law_one_of : Stmt := top 25
abbrev s_law_tree : Stmt := top 26
abbrev s_law_worth : Stmt := top 27
abbrev s_law_form : Stmt := top 28
abbrev s_law_whole_at : Stmt := top 29
abbrev s_law_values : Stmt := top 30
abbrev s_law_names : Stmt := top 31
abbrev s_law_right : Stmt := top 32
abbrev s_law_mixed_right : Stmt := top 33
abbrev s_law : Stmt := top 34
theorem sc_is_whole : FnScope ["value"] ["value"] (defScope s_is_whole) := ⟨rfl, rfl, rfl, by decide +kernel, rfl, by decide +kernel, by decide +kernel⟩
theorem sc_is_letter : FnScope ["value", "sign"] ["value"] (defScope s_is_letter) := ⟨rfl, rfl, rfl, by decide +kernel, rfl, by decide +kernel, by decide +kernel⟩
theorem sc_check_letter : FnScope ["name"] ["name"] (defScope s_check_letter) := ⟨rfl, rfl, rfl, by decide +kernel, rfl, by decide +kernel, by decide +kernel⟩
theorem sc_check_form : FnScope ["form"] ["form"] (defScope s_check_form) := ⟨rfl, rfl, rfl, by decide +kernel, rfl, by decide +kernel, by decide +kernel⟩
theorem sc_are_values : FnScope ["value", "name"] ["value"] (defScope s_are_values) := ⟨rfl, rfl, rfl, by decide +kernel, rfl, by decide +kernel, by decide +kernel⟩
theorem sc_common : FnScope ["one", "other"] ["one", "other"] (defScope s_common) := ⟨rfl, rfl, rfl, by decide +kernel, rfl, by decide +kernel, by decide +kernel⟩
theorem sc_made : FnScope ["rows", "under", "kept", "product", "many", "divisor"] ["rows", "under"] (defScope s_made) := ⟨rfl, rfl, rfl, by decide +kernel, rfl, by decide +kernel, by decide +kernel⟩
theorem sc_as_form : FnScope ["value"] ["value"] (defScope s_as_form) := ⟨rfl, rfl, rfl, by decide +kernel, rfl, by decide +kernel, by decide +kernel⟩
theorem sc_Form___init : FnScope ["self", "rows", "under"] ["self", "rows", "under"] (defScope s_Form___init) := ⟨rfl, rfl, rfl, by decide +kernel, rfl, by decide +kernel, by decide +kernel⟩
theorem sc_Form___add : FnScope ["self", "other", "rows", "product", "many"] ["self", "other"] (defScope s_Form___add) := ⟨rfl, rfl, rfl, by decide +kernel, rfl, by decide +kernel, by decide +kernel⟩
theorem sc_Form___neg : FnScope ["self", "product", "many"] ["self"] (defScope s_Form___neg) := ⟨rfl, rfl, rfl, by decide +kernel, rfl, by decide +kernel, by decide +kernel⟩
theorem sc_Form___sub : FnScope ["self", "other"] ["self", "other"] (defScope s_Form___sub) := ⟨rfl, rfl, rfl, by decide +kernel, rfl, by decide +kernel, by decide +kernel⟩
theorem sc_Form___mul : FnScope ["self", "other", "rows", "one", "many", "two", "more", "product"] ["self", "other"] (defScope s_Form___mul) := ⟨rfl, rfl, rfl, by decide +kernel, rfl, by decide +kernel, by decide +kernel⟩
theorem sc_Form_over : FnScope ["self", "divisor", "turned"] ["self", "divisor"] (defScope s_Form_over) := ⟨rfl, rfl, rfl, by decide +kernel, rfl, by decide +kernel, by decide +kernel⟩
theorem sc_Form_letters : FnScope ["self", "product", "name"] ["self"] (defScope s_Form_letters) := ⟨rfl, rfl, rfl, by decide +kernel, rfl, by decide +kernel, by decide +kernel⟩
theorem sc_Form_above : FnScope ["self", "values", "total", "product", "many", "name"] ["self", "values"] (defScope s_Form_above) := ⟨rfl, rfl, rfl, by decide +kernel, rfl, by decide +kernel, by decide +kernel⟩
theorem sc_Form_at : FnScope ["self", "values", "name", "total"] ["self", "values"] (defScope s_Form_at) := ⟨rfl, rfl, rfl, by decide +kernel, rfl, by decide +kernel, by decide +kernel⟩
theorem sc_letter : FnScope ["name"] ["name"] (defScope s_letter) := ⟨rfl, rfl, rfl, by decide +kernel, rfl, by decide +kernel, by decide +kernel⟩
theorem sc_number : FnScope ["value"] ["value"] (defScope s_number) := ⟨rfl, rfl, rfl, by decide +kernel, rfl, by decide +kernel, by decide +kernel⟩
theorem sc_law_purse : FnScope ["_law_script", "_law_at", "_law_seed"] ["_law_script", "_law_at"] (defScope s_law_purse) := ⟨rfl, rfl, rfl, by decide +kernel, rfl, by decide +kernel, by decide +kernel⟩
theorem sc_law_mixed : FnScope ["_law_seed", "_law_turn", "_law_at", "_law_mixed_here"] ["_law_seed", "_law_turn", "_law_at"] (defScope s_law_mixed) := ⟨rfl, rfl, rfl, by decide +kernel, rfl, by decide +kernel, by decide +kernel⟩
theorem sc_law_draw : FnScope ["_law_purse_here", "_law_many", "_law_drawn", "_law_found", "_law_piece"] ["_law_purse_here", "_law_many"] (defScope s_law_draw) := ⟨rfl, rfl, rfl, by decide +kernel, rfl, by decide +kernel, by decide +kernel⟩
theorem sc_law_purses : FnScope ["_law_script", "_law_few", "_law_at"] ["_law_script", "_law_few"] (defScope s_law_purses) := ⟨rfl, rfl, rfl, by decide +kernel, rfl, by decide +kernel, by decide +kernel⟩
theorem sc_law_one_of : FnScope ["_law_purse_here", "_law_some"] ["_law_purse_here", "_law_some"] (defScope s_law_one_of) := ⟨rfl, rfl, rfl, by decide +kernel, rfl, by decide +kernel, by decide +kernel⟩
theorem sc_law_tree : FnScope ["_law_purse_here", "_law_depth", "_law_names_here", "_law_way", "_law_word"] ["_law_purse_here", "_law_depth", "_law_names_here"] (defScope s_law_tree) := ⟨rfl, rfl, rfl, by decide +kernel, rfl, by decide +kernel, by decide +kernel⟩
theorem sc_law_worth : FnScope ["_law_tree_here", "_law_values_here", "_law_first", "_law_under", "_law_second", "_law_lower"] ["_law_tree_here", "_law_values_here"] (defScope s_law_worth) := ⟨rfl, rfl, rfl, by decide +kernel, rfl, by decide +kernel, by decide +kernel⟩
theorem sc_law_form : FnScope ["_law_tree_here", "_law_first", "_law_second"] ["_law_tree_here"] (defScope s_law_form) := ⟨rfl, rfl, rfl, by decide +kernel, rfl, by decide +kernel, by decide +kernel⟩
theorem sc_law_whole_at : FnScope ["_law_tree_here", "_law_values_here", "_law_above", "_law_under"] ["_law_tree_here", "_law_values_here"] (defScope s_law_whole_at) := ⟨rfl, rfl, rfl, by decide +kernel, rfl, by decide +kernel, by decide +kernel⟩
theorem sc_law_values : FnScope ["_law_purse_here", "_law_names_here", "_law_found", "_law_name", "_law_far"] ["_law_purse_here", "_law_names_here"] (defScope s_law_values) := ⟨rfl, rfl, rfl, by decide +kernel, rfl, by decide +kernel, by decide +kernel⟩
theorem sc_law_names : FnScope ["_law_purse_here", "_law_many", "_law_found", "_law_turn", "_law_word", "_law_spot", "_law_some", "_law_name"] ["_law_purse_here", "_law_many"] (defScope s_law_names) := ⟨rfl, rfl, rfl, by decide +kernel, rfl, by decide +kernel, by decide +kernel⟩
theorem sc_law_right : FnScope ["_law_purse_here", "_law_tree_here", "_law_form_here", "_law_names_here", "_law_turn", "_law_values_here"] ["_law_purse_here", "_law_tree_here", "_law_form_here", "_law_names_here"] (defScope s_law_right) := ⟨rfl, rfl, rfl, by decide +kernel, rfl, by decide +kernel, by decide +kernel⟩
theorem sc_law_mixed_right : FnScope ["_law_purse_here", "_law_tree_here", "_law_names_here", "_law_form_here", "_law_many", "_law_word", "_law_built", "_law_under", "_law_flipped", "_law_again"] ["_law_purse_here", "_law_tree_here", "_law_names_here"] (defScope s_law_mixed_right) := ⟨rfl, rfl, rfl, by decide +kernel, rfl, by decide +kernel, by decide +kernel⟩
theorem sc_law : FnScope ["_law_script", "_law_purse_here", "_law_names_here", "_law_tree_here"] ["_law_script"] (defScope s_law) := ⟨rfl, rfl, rfl, by decide +kernel, rfl, by decide +kernel, by decide +kernel⟩
abbrev c_SMALL : V := .str "abcdefghijklmnopqrstuvwxyz"
structure Txt (K : PySem.W.Frag) (mg : Str → Option Value) where
  a_is_whole : Addr
  fd_is_whole : FuncData
  F_is_whole : Fun K "is_whole" "is_whole" s_is_whole a_is_whole fd_is_whole
  m_is_whole : mg "is_whole" = some (.ref a_is_whole)
  a_is_letter : Addr
  fd_is_letter : FuncData
  F_is_letter : Fun K "is_letter" "is_letter" s_is_letter a_is_letter fd_is_letter
  m_is_letter : mg "is_letter" = some (.ref a_is_letter)
  a_check_letter : Addr
  fd_check_letter : FuncData
  F_check_letter : Fun K "check_letter" "check_letter" s_check_letter a_check_letter fd_check_letter
  m_check_letter : mg "check_letter" = some (.ref a_check_letter)
  a_check_form : Addr
  fd_check_form : FuncData
  F_check_form : Fun K "check_form" "check_form" s_check_form a_check_form fd_check_form
  m_check_form : mg "check_form" = some (.ref a_check_form)
  a_are_values : Addr
  fd_are_values : FuncData
  F_are_values : Fun K "are_values" "are_values" s_are_values a_are_values fd_are_values
  m_are_values : mg "are_values" = some (.ref a_are_values)
  a_common : Addr
  fd_common : FuncData
  F_common : Fun K "common" "common" s_common a_common fd_common
  m_common : mg "common" = some (.ref a_common)
  a_made : Addr
  fd_made : FuncData
  F_made : Fun K "made" "made" s_made a_made fd_made
  m_made : mg "made" = some (.ref a_made)
  a_as_form : Addr
  fd_as_form : FuncData
  F_as_form : Fun K "as_form" "as_form" s_as_form a_as_form fd_as_form
  m_as_form : mg "as_form" = some (.ref a_as_form)
  a_Form___init : Addr
  fd_Form___init : FuncData
  F_Form___init : Fun K "__init__" "Form.__init__" s_Form___init a_Form___init fd_Form___init
  a_Form___add : Addr
  fd_Form___add : FuncData
  F_Form___add : Fun K "__add__" "Form.__add__" s_Form___add a_Form___add fd_Form___add
  a_Form___neg : Addr
  fd_Form___neg : FuncData
  F_Form___neg : Fun K "__neg__" "Form.__neg__" s_Form___neg a_Form___neg fd_Form___neg
  a_Form___sub : Addr
  fd_Form___sub : FuncData
  F_Form___sub : Fun K "__sub__" "Form.__sub__" s_Form___sub a_Form___sub fd_Form___sub
  a_Form___mul : Addr
  fd_Form___mul : FuncData
  F_Form___mul : Fun K "__mul__" "Form.__mul__" s_Form___mul a_Form___mul fd_Form___mul
  a_Form_over : Addr
  fd_Form_over : FuncData
  F_Form_over : Fun K "over" "Form.over" s_Form_over a_Form_over fd_Form_over
  a_Form_letters : Addr
  fd_Form_letters : FuncData
  F_Form_letters : Fun K "letters" "Form.letters" s_Form_letters a_Form_letters fd_Form_letters
  a_Form_above : Addr
  fd_Form_above : FuncData
  F_Form_above : Fun K "above" "Form.above" s_Form_above a_Form_above fd_Form_above
  a_Form_at : Addr
  fd_Form_at : FuncData
  F_Form_at : Fun K "at" "Form.at" s_Form_at a_Form_at fd_Form_at
  a_letter : Addr
  fd_letter : FuncData
  F_letter : Fun K "letter" "letter" s_letter a_letter fd_letter
  m_letter : mg "letter" = some (.ref a_letter)
  a_number : Addr
  fd_number : FuncData
  F_number : Fun K "number" "number" s_number a_number fd_number
  m_number : mg "number" = some (.ref a_number)
  a_law_purse : Addr
  fd_law_purse : FuncData
  F_law_purse : Fun K "_law_purse" "_law_purse" s_law_purse a_law_purse fd_law_purse
  m__law_purse : mg "_law_purse" = some (.ref a_law_purse)
  a_law_mixed : Addr
  fd_law_mixed : FuncData
  F_law_mixed : Fun K "_law_mixed" "_law_mixed" s_law_mixed a_law_mixed fd_law_mixed
  m__law_mixed : mg "_law_mixed" = some (.ref a_law_mixed)
  a_law_draw : Addr
  fd_law_draw : FuncData
  F_law_draw : Fun K "_law_draw" "_law_draw" s_law_draw a_law_draw fd_law_draw
  m__law_draw : mg "_law_draw" = some (.ref a_law_draw)
  a_law_purses : Addr
  fd_law_purses : FuncData
  F_law_purses : Fun K "_law_purses" "_law_purses" s_law_purses a_law_purses fd_law_purses
  m__law_purses : mg "_law_purses" = some (.ref a_law_purses)
  a_law_one_of : Addr
  fd_law_one_of : FuncData
  F_law_one_of : Fun K "_law_one_of" "_law_one_of" s_law_one_of a_law_one_of fd_law_one_of
  m__law_one_of : mg "_law_one_of" = some (.ref a_law_one_of)
  a_law_tree : Addr
  fd_law_tree : FuncData
  F_law_tree : Fun K "_law_tree" "_law_tree" s_law_tree a_law_tree fd_law_tree
  m__law_tree : mg "_law_tree" = some (.ref a_law_tree)
  a_law_worth : Addr
  fd_law_worth : FuncData
  F_law_worth : Fun K "_law_worth" "_law_worth" s_law_worth a_law_worth fd_law_worth
  m__law_worth : mg "_law_worth" = some (.ref a_law_worth)
  a_law_form : Addr
  fd_law_form : FuncData
  F_law_form : Fun K "_law_form" "_law_form" s_law_form a_law_form fd_law_form
  m__law_form : mg "_law_form" = some (.ref a_law_form)
  a_law_whole_at : Addr
  fd_law_whole_at : FuncData
  F_law_whole_at : Fun K "_law_whole_at" "_law_whole_at" s_law_whole_at a_law_whole_at fd_law_whole_at
  m__law_whole_at : mg "_law_whole_at" = some (.ref a_law_whole_at)
  a_law_values : Addr
  fd_law_values : FuncData
  F_law_values : Fun K "_law_values" "_law_values" s_law_values a_law_values fd_law_values
  m__law_values : mg "_law_values" = some (.ref a_law_values)
  a_law_names : Addr
  fd_law_names : FuncData
  F_law_names : Fun K "_law_names" "_law_names" s_law_names a_law_names fd_law_names
  m__law_names : mg "_law_names" = some (.ref a_law_names)
  a_law_right : Addr
  fd_law_right : FuncData
  F_law_right : Fun K "_law_right" "_law_right" s_law_right a_law_right fd_law_right
  m__law_right : mg "_law_right" = some (.ref a_law_right)
  a_law_mixed_right : Addr
  fd_law_mixed_right : FuncData
  F_law_mixed_right : Fun K "_law_mixed_right" "_law_mixed_right" s_law_mixed_right a_law_mixed_right fd_law_mixed_right
  m__law_mixed_right : mg "_law_mixed_right" = some (.ref a_law_mixed_right)
  a_law : Addr
  fd_law : FuncData
  F_law : Fun K "law" "law" s_law a_law fd_law
  m_law : mg "law" = some (.ref a_law)
  a_Form : Addr
  m_Form : mg "Form" = some (.ref a_Form)
  c_Form : Cls K a_Form
  I_Form : ClsI K a_Form
  n_Form_rows : NoAttr K a_Form "rows"
  n_Form_under : NoAttr K a_Form "under"
  k_Form : Mk K a_Form a_Form___init
  M_Form___add : Meth K a_Form "__add__" a_Form___add
  M_Form___neg : Meth K a_Form "__neg__" a_Form___neg
  M_Form___sub : Meth K a_Form "__sub__" a_Form___sub
  M_Form___mul : Meth K a_Form "__mul__" a_Form___mul
  M_Form_over : Meth K a_Form "over" a_Form_over
  M_Form_letters : Meth K a_Form "letters" a_Form_letters
  M_Form_above : Meth K a_Form "above" a_Form_above
  M_Form_at : Meth K a_Form "at" a_Form_at
  S_Form : OwnOps K a_Form
  Z_Form___add : IntOp K a_Form "__add__" "__radd__" (some (.builtin "int.__add__")) (some (.builtin "int.__radd__"))
  Z_Form___sub : IntOp K a_Form "__sub__" "__rsub__" (some (.builtin "int.__sub__")) (some (.builtin "int.__rsub__"))
  Z_Form___mul : IntOp K a_Form "__mul__" "__rmul__" (some (.builtin "int.__mul__")) (some (.builtin "int.__rmul__"))
  u_SMALL : Value
  m_SMALL : mg "SMALL" = some u_SMALL ∧ RelV c_SMALL u_SMALL
  n_abs : mg "abs" = none
  n_bool : mg "bool" = none
  n_dict : mg "dict" = none
  n_int : mg "int" = none
  n_isinstance : mg "isinstance" = none
  n_len : mg "len" = none
  n_max : mg "max" = none
  n_min : mg "min" = none
  n_range : mg "range" = none
  n_sorted : mg "sorted" = none
  n_str : mg "str" = none
  n_sum : mg "sum" = none
  n_tuple : mg "tuple" = none
variable {P : Program} {w : World} {K : PySem.W.Frag} {mg : Str → Option Value} {base : Heap}
theorem b_is_whole (T : Txt K mg) : Binds K T.fd_is_whole ["value"] [] := T.F_is_whole.binds (ps := ["value"]) fun _ _ _ _ _ _ us hl => match us, hl with | [_], _ => rfl
theorem b_is_letter (T : Txt K mg) : Binds K T.fd_is_letter ["value"] [] := T.F_is_letter.binds (ps := ["value"]) fun _ _ _ _ _ _ us hl => match us, hl with | [_], _ => rfl
theorem b_check_letter (T : Txt K mg) : Binds K T.fd_check_letter ["name"] [] := T.F_check_letter.binds (ps := ["name"]) fun _ _ _ _ _ _ us hl => match us, hl with | [_], _ => rfl
theorem b_check_form (T : Txt K mg) : Binds K T.fd_check_form ["form"] [] := T.F_check_form.binds (ps := ["form"]) fun _ _ _ _ _ _ us hl => match us, hl with | [_], _ => rfl
theorem b_are_values (T : Txt K mg) : Binds K T.fd_are_values ["value"] [] := T.F_are_values.binds (ps := ["value"]) fun _ _ _ _ _ _ us hl => match us, hl with | [_], _ => rfl
theorem b_common (T : Txt K mg) : Binds K T.fd_common ["one", "other"] [] := T.F_common.binds (ps := ["one", "other"]) fun _ _ _ _ _ _ us hl => match us, hl with | [_, _], _ => rfl
theorem b_made (T : Txt K mg) : Binds K T.fd_made ["rows", "under"] [] := T.F_made.binds (ps := ["rows", "under"]) fun _ _ _ _ _ _ us hl => match us, hl with | [_, _], _ => rfl
theorem b_as_form (T : Txt K mg) : Binds K T.fd_as_form ["value"] [] := T.F_as_form.binds (ps := ["value"]) fun _ _ _ _ _ _ us hl => match us, hl with | [_], _ => rfl
theorem b_Form___init (T : Txt K mg) : Binds K T.fd_Form___init ["self", "rows", "under"] [] := T.F_Form___init.binds (ps := ["self", "rows", "under"]) fun _ _ _ _ _ _ us hl => match us, hl with | [_, _, _], _ => rfl
theorem b_Form___add (T : Txt K mg) : Binds K T.fd_Form___add ["self", "other"] [] := T.F_Form___add.binds (ps := ["self", "other"]) fun _ _ _ _ _ _ us hl => match us, hl with | [_, _], _ => rfl
theorem b_Form___neg (T : Txt K mg) : Binds K T.fd_Form___neg ["self"] [] := T.F_Form___neg.binds (ps := ["self"]) fun _ _ _ _ _ _ us hl => match us, hl with | [_], _ => rfl
theorem b_Form___sub (T : Txt K mg) : Binds K T.fd_Form___sub ["self", "other"] [] := T.F_Form___sub.binds (ps := ["self", "other"]) fun _ _ _ _ _ _ us hl => match us, hl with | [_, _], _ => rfl
theorem b_Form___mul (T : Txt K mg) : Binds K T.fd_Form___mul ["self", "other"] [] := T.F_Form___mul.binds (ps := ["self", "other"]) fun _ _ _ _ _ _ us hl => match us, hl with | [_, _], _ => rfl
theorem b_Form_over (T : Txt K mg) : Binds K T.fd_Form_over ["self", "divisor"] [] := T.F_Form_over.binds (ps := ["self", "divisor"]) fun _ _ _ _ _ _ us hl => match us, hl with | [_, _], _ => rfl
theorem b_Form_letters (T : Txt K mg) : Binds K T.fd_Form_letters ["self"] [] := T.F_Form_letters.binds (ps := ["self"]) fun _ _ _ _ _ _ us hl => match us, hl with | [_], _ => rfl
theorem b_Form_above (T : Txt K mg) : Binds K T.fd_Form_above ["self", "values"] [] := T.F_Form_above.binds (ps := ["self", "values"]) fun _ _ _ _ _ _ us hl => match us, hl with | [_, _], _ => rfl
theorem b_Form_at (T : Txt K mg) : Binds K T.fd_Form_at ["self", "values"] [] := T.F_Form_at.binds (ps := ["self", "values"]) fun _ _ _ _ _ _ us hl => match us, hl with | [_, _], _ => rfl
theorem b_letter (T : Txt K mg) : Binds K T.fd_letter ["name"] [] := T.F_letter.binds (ps := ["name"]) fun _ _ _ _ _ _ us hl => match us, hl with | [_], _ => rfl
theorem b_number (T : Txt K mg) : Binds K T.fd_number ["value"] [] := T.F_number.binds (ps := ["value"]) fun _ _ _ _ _ _ us hl => match us, hl with | [_], _ => rfl
theorem b_law_purse (T : Txt K mg) : Binds K T.fd_law_purse ["_law_script", "_law_at"] [] := T.F_law_purse.binds (ps := ["_law_script", "_law_at"]) fun _ _ _ _ _ _ us hl => match us, hl with | [_, _], _ => rfl
theorem b_law_mixed (T : Txt K mg) : Binds K T.fd_law_mixed ["_law_seed", "_law_turn", "_law_at"] [] := T.F_law_mixed.binds (ps := ["_law_seed", "_law_turn", "_law_at"]) fun _ _ _ _ _ _ us hl => match us, hl with | [_, _, _], _ => rfl
theorem b_law_draw (T : Txt K mg) : Binds K T.fd_law_draw ["_law_purse_here", "_law_many"] [] := T.F_law_draw.binds (ps := ["_law_purse_here", "_law_many"]) fun _ _ _ _ _ _ us hl => match us, hl with | [_, _], _ => rfl
theorem b_law_purses (T : Txt K mg) : Binds K T.fd_law_purses ["_law_script", "_law_few"] [] := T.F_law_purses.binds (ps := ["_law_script", "_law_few"]) fun _ _ _ _ _ _ us hl => match us, hl with | [_, _], _ => rfl
theorem b_law_one_of (T : Txt K mg) : Binds K T.fd_law_one_of ["_law_purse_here", "_law_some"] [] := T.F_law_one_of.binds (ps := ["_law_purse_here", "_law_some"]) fun _ _ _ _ _ _ us hl => match us, hl with | [_, _], _ => rfl
theorem b_law_tree (T : Txt K mg) : Binds K T.fd_law_tree ["_law_purse_here", "_law_depth", "_law_names_here"] [] := T.F_law_tree.binds (ps := ["_law_purse_here", "_law_depth", "_law_names_here"]) fun _ _ _ _ _ _ us hl => match us, hl with | [_, _, _], _ => rfl
theorem b_law_worth (T : Txt K mg) : Binds K T.fd_law_worth ["_law_tree_here", "_law_values_here"] [] := T.F_law_worth.binds (ps := ["_law_tree_here", "_law_values_here"]) fun _ _ _ _ _ _ us hl => match us, hl with | [_, _], _ => rfl
theorem b_law_form (T : Txt K mg) : Binds K T.fd_law_form ["_law_tree_here"] [] := T.F_law_form.binds (ps := ["_law_tree_here"]) fun _ _ _ _ _ _ us hl => match us, hl with | [_], _ => rfl
theorem b_law_whole_at (T : Txt K mg) : Binds K T.fd_law_whole_at ["_law_tree_here", "_law_values_here"] [] := T.F_law_whole_at.binds (ps := ["_law_tree_here", "_law_values_here"]) fun _ _ _ _ _ _ us hl => match us, hl with | [_, _], _ => rfl
theorem b_law_values (T : Txt K mg) : Binds K T.fd_law_values ["_law_purse_here", "_law_names_here"] [] := T.F_law_values.binds (ps := ["_law_purse_here", "_law_names_here"]) fun _ _ _ _ _ _ us hl => match us, hl with | [_, _], _ => rfl
theorem b_law_names (T : Txt K mg) : Binds K T.fd_law_names ["_law_purse_here", "_law_many"] [] := T.F_law_names.binds (ps := ["_law_purse_here", "_law_many"]) fun _ _ _ _ _ _ us hl => match us, hl with | [_, _], _ => rfl
theorem b_law_right (T : Txt K mg) : Binds K T.fd_law_right ["_law_purse_here", "_law_tree_here", "_law_form_here", "_law_names_here"] [] := T.F_law_right.binds (ps := ["_law_purse_here", "_law_tree_here", "_law_form_here", "_law_names_here"]) fun _ _ _ _ _ _ us hl => match us, hl with | [_, _, _, _], _ => rfl
theorem b_law_mixed_right (T : Txt K mg) : Binds K T.fd_law_mixed_right ["_law_purse_here", "_law_tree_here", "_law_names_here"] [] := T.F_law_mixed_right.binds (ps := ["_law_purse_here", "_law_tree_here", "_law_names_here"]) fun _ _ _ _ _ _ us hl => match us, hl with | [_, _, _], _ => rfl
theorem b_law (T : Txt K mg) : Binds K T.fd_law ["_law_script"] [] := T.F_law.binds (ps := ["_law_script"]) fun _ _ _ _ _ _ us hl => match us, hl with | [_], _ => rfl
end CP
open CP L2 in
local macro_rules | `(tactic| walk_at "at") => `(tactic| first
  | assumption
  | (refine CP.Same.to (by assumption) ?_; walk_at "at")
  | (refine CP.SB.to (by assumption) ?ne ?_; (case ne => walk_at "ne"); walk_at "at"))
open CP L2 in
local macro_rules | `(tactic| walk_at "ne") => `(tactic| first
  | assumption
  | (refine Ne.symm ?_; assumption)
  | (refine L2.ne_of_none (o := ?o) ?h1 (by assumption); (case h1 => walk_at "at"))
  | (refine Ne.symm (L2.ne_of_none (o := ?o) ?h1 (by assumption)); (case h1 => walk_at "at")))
open CP L2 in
local macro_rules | `(tactic| walk_at "sm") => `(tactic| first
  | assumption
  | exact L2.Same.refl _
  | (refine L2.Same.trans ?_ (by assumption); walk_at "sm")
  | (refine CP.Same.sb ?s ?n (by assumption); (case s => walk_at "sm"); (case n => walk_at "nn")))
open CP L2 in
local macro_rules | `(tactic| walk_at "nn") => `(tactic| first
  | assumption
  | (refine L2.Same.free ?s (by assumption); (case s => walk_at "sm"))
  | (refine CP.SB.free (by assumption) ?h ?n; (case h => walk_at "nn"); (case n => walk_at "ne")))
open CP L2 in
local macro_rules | `(tactic| walk_at "sq") => `(tactic| first
  | assumption
  | (refine L2.SqL.of ?_; walk_at "at")
  | (refine L2.SqT.of ?_; walk_at "at")
  | (refine L2.Same.seq (by assumption) ?_; walk_at "sq"))
open CP L2 in
local macro_rules | `(tactic| walk_at "side") => `(tactic| first
  | assumption
  | decide
  | (with_reducible refine CP.mul_ok ?_; omega)
  | (with_reducible refine CP.mul_okN ?_; omega)
  | (with_reducible refine CP.div_ok ?_; omega)
  | (show (0 : Int) < _; omega)
  | omega)
open CP L2 in
local macro_rules | `(tactic| walk_at "st") => `(tactic| simp only [L2.start, List.map_cons, List.map_nil, List.length_cons, List.length_nil, Nat.reduceAdd, Nat.reduceSub, List.replicate_succ, List.replicate_zero, List.cons_append, List.nil_append, List.append_nil])
open CP L2 in
local macro_rules | `(tactic| walk_at "s") => `(tactic| first
  | with_reducible refine CP.r_seq ?_
  | with_reducible refine CP.r_asg ?_
  | (with_reducible refine CP.r_name ?_; dsimp only [List.set_cons_zero, List.set_cons_succ])
  | with_reducible refine CP.r_var rfl ?_
  | with_reducible refine CP.r_c ?_
  | with_reducible refine CP.r_op ?_
  | with_reducible refine CP.r_I0 ?_
  | (with_reducible refine CP.r_I ?c ?_; (case c => walk_at "side"))
  | with_reducible refine CP.r_eqI ?_
  | with_reducible refine CP.r_neI ?_
  | with_reducible refine CP.r_test ?_
  | with_reducible refine CP.r_tB ?_
  | with_reducible refine CP.r_bl ?_
  | with_reducible refine CP.r_ifS ?_
  | with_reducible refine CP.if_t ?_
  | with_reducible refine CP.if_f ?_
  | with_reducible refine CP.if_nt ?_
  | with_reducible refine CP.if_nf ?_
  | with_reducible refine CP.r_cons ?_
  | with_reducible refine CP.r_nil ?_
  | with_reducible refine CP.r_call ?_
  | with_reducible refine CP.r_cb ?_
  | with_reducible refine CP.r_ret ?_
  | (with_reducible refine CP.r_par ?_)
  | (with_reducible refine CP.r_two ?_; dsimp only [List.set_cons_zero, List.set_cons_succ])
  | with_reducible refine CP.r_next ?_
  | with_reducible refine CP.r_and ?_
  | with_reducible refine CP.r_or ?_
  | with_reducible refine CP.r_not ?_
  | with_reducible refine CP.r_for ?_
  | with_reducible refine CP.r_iTup ?_
  | with_reducible refine CP.r_iList ?_
  | with_reducible refine CP.r_iRng1 ?_
  | (with_reducible refine CP.r_rng ?a ?b ?_; (case a => omega); (case b => omega))
  | with_reducible refine CP.r_tup ?_
  | with_reducible refine CP.r_lst ?_
  | with_reducible refine CP.r_dnewK ?_
  | (with_reducible refine CP.r_newO ?_; intro _ _ _ _ _)
  | (with_reducible refine CP.r_mk (by first | exact Nat.zero_le _ | (simp only [List.length_cons, List.length_nil, Nat.reduceAdd]; decide) | omega) ?_; intro _ _ _ _ _)
  | (with_reducible refine CP.r_len (ys := ?y) ?h ?_; (case h => walk_at "sq"))
  | (with_reducible refine CP.r_lenT (ys := ?y) ?h ?_; (case h => walk_at "sq"))
  | (with_reducible refine CP.r_list (ys := ?y) ?h ?_; (case h => walk_at "sq"); intro _ _ _ _ _)
  | with_reducible refine CP.r_max2 ?_
  | with_reducible refine CP.r_min2 ?_
  | with_reducible refine CP.r_abs ?_
  | with_reducible refine CP.r_int ?_
  | with_reducible refine CP.r_bits ?_
  | with_reducible refine CP.r_drop ?_
  | with_reducible refine CP.r_bm ?_
  | with_reducible refine CP.r_bm0 ?_
  | with_reducible refine CP.r_sl ?_
  | with_reducible refine CP.r_noPart ?_
  | with_reducible refine CP.r_part ?_
  | with_reducible refine CP.r_gsub ?_
  | (with_reducible refine CP.r_slL (xs := ?x) ?h ?_; (case h => walk_at "sq"); intro _ _ _ _ _)
  | (with_reducible refine CP.r_cat (xs := ?x) (ys := ?y) ?h ?h2 ?z ?_; (case h => walk_at "at"); (case h2 => walk_at "at"); (case z => first | omega | (simp only [List.length_map, List.length_cons, List.length_nil]; omega)); intro _ _ _ _ _)
  | with_reducible refine CP.r_lc ?_
  | (with_reducible refine CP.r_gtup (xs := ?x) ?h ?l ?_; (case h => walk_at "sq"); (case l => simp only [List.length_cons, List.length_nil, Nat.reduceAdd]))
  | with_reducible refine CP.r_gcons ?_
  | with_reducible refine CP.r_iRng2 ?_
  | (with_reducible refine CP.r_rng2 ?a ?_; (case a => omega))
  | with_reducible refine CP.r_neB ?_
  | with_reducible refine CP.r_eqB ?_
  | with_reducible refine CP.r_dget2 ?_
  | with_reducible refine CP.r_sdput ?_
  | (with_reducible refine CP.r_disp1 ?_; intro _ _ _ _ _)
  | with_reducible refine CP.r_gnil ?_
  | with_reducible refine CP.r_callW ?_
  | with_reducible refine CP.r_callD ?_
  | with_reducible refine CP.r_retN ?_
  | with_reducible refine CP.r_andV ?_
  | with_reducible refine CP.r_orV ?_
  | with_reducible refine CP.r_notV ?_
  | (with_reducible refine CP.r_isi (n := ?n) ?t ?c ?_; (case t => first | assumption | exact CP.tk_int | exact CP.tk_bl | exact CP.tk_non | exact CP.tk_str); (case c => decide))
  | with_reducible refine CP.r_ifE ?_)
open CP L2 in
local macro_rules | `(tactic| walk_at "d") => `(tactic| first
  | (with_reducible refine CP.r_name ?_; dsimp only [L2.wipe, List.set_cons_zero, List.set_cons_succ])
  | with_reducible refine CP.r_chain ?_
  | with_reducible refine CP.r_eqXS ?_
  | with_reducible refine CP.r_neXS ?_
  | with_reducible refine CP.r_eqXI ?_
  | with_reducible refine CP.r_neXI ?_
  | with_reducible refine CP.r_dc ?_
  | with_reducible refine CP.r_par3 ?_
  | with_reducible refine CP.r_iEnum ?_
  | with_reducible refine CP.r_makeK ?_
  | with_reducible refine CP.r_iKeys ?_
  | with_reducible refine CP.r_revL ?_
  | (with_reducible refine CP.r_three ?_; dsimp only [List.set_cons_zero, List.set_cons_succ])
  | with_reducible refine CP.r_notNr ?_
  | with_reducible refine CP.r_notNn ?_
  | with_reducible refine CP.r_isNr ?_
  | with_reducible refine CP.r_isNn ?_
  | with_reducible refine CP.r_lc2 ?_
  | with_reducible refine CP.r_iStr ?_
  | with_reducible refine CP.r_strx ?_
  | with_reducible refine CP.r_inS ?_
  | with_reducible refine CP.r_notInS ?_
  | with_reducible refine CP.r_tfld ?_
  | with_reducible refine CP.r_sfld ?_
  | with_reducible refine CP.r_tmake ?_
  | with_reducible refine CP.r_tmeth ?_
  | with_reducible refine CP.r_tdni ?_
  | with_reducible refine CP.r_tdin ?_
  | with_reducible refine CP.r_tdget ?_
  | (with_reducible refine CP.r_lookI (kvs := ?k) ?h ?_; (case h => walk_at "at"))
  | (with_reducible refine CP.r_lookS (kvs := ?k) ?h ?_; (case h => walk_at "at"))
  | (with_reducible refine CP.r_isD (kvs := ?k) ?h ?_; (case h => walk_at "at"))
  | (with_reducible refine CP.r_dget2I (kvs := ?k) ?h ?_; (case h => walk_at "at"))
  | (with_reducible refine CP.r_dget2S (kvs := ?k) ?h ?_; (case h => walk_at "at")))
open CP L2 in
local macro_rules | `(tactic| walk_at "w") => `(tactic| first
  | walk_at "s"
  | walk_at "d")

namespace CP
open PySem L2
section
variable {P : Program} {w : World} {K : PySem.W.Frag} {mg : Str → Option Value} {base : Heap}
/-- of a value of a known kind, or of a form -/
def sp_is_whole (T : Txt K mg) : Sp := fun vs H Q _ => match vs with
  | [x] => ∃ n, (TK K H x n ∨ (n = "form" ∧ ∃ o dx fs, x = .ref o ∧ H o = some (.ins T.a_Form dx fs))) ∧ Q (.bl (n == "int")) H
  | _ => False
def t_is_whole (w : World) (T : Txt K mg) : TS := tRet (tAndV (tCB (rIsi K) (tCons (tVar 0) (tCons (tC (.ty "int")) (tNil)))) (tNotV (tCB (rIsi K) (tCons (tVar 0) (tCons (tC (.ty "bool")) (tNil))))))
theorem len_is_whole (T : Txt K mg) : ∀ (vs : List V) (H : Hp) (Q : VK) (E : XK), sp_is_whole T vs H Q E → vs.length = (["value"] : List Str).length := by
  intro vs H Q E h
  unfold sp_is_whole at h
  split at h
  all_goals first | rfl | exact h.elim
theorem rd_is_whole (T : Txt K mg) (vs : List V) (H : Hp) (Q : VK) (E : XK) (h : sp_is_whole T vs H Q E) : t_is_whole w T { nx := fun _ H' => Q .non H', rt := Q } (start ["value"] vs) H := by
  match vs, h with
  | [x], h =>
  obtain ⟨n, ht, q⟩ := h
  unfold t_is_whole
  walk_at "st"
  rcases ht with ht | ⟨rfl, o, dx, fs, rfl, ho⟩
  · repeat walk_at "s"
    refine if_b (fun c => ?_) (fun c => ?_)
    · repeat walk_at "s"
      have e : (!(n == "bool" || n == "bool" && "bool" == "int")) = (n == "int") := by
        cases hb : n == "int" <;> cases hi : n == "bool" <;> simp_all
      rw [e]
      exact q
    · have e : (n == "int") = false := by
        cases hb : n == "int" <;> simp_all
      rw [e] at q
      exact q
  · repeat walk_at "s"
    refine ⟨.ref o, .ty "int", .ref T.a_Form, .type "int", false, rfl, .ty "int", .base (.ins ho T.I_Form.cl T.I_Form.at_ T.I_Form.sp T.I_Form.tk T.I_Form.mro), T.S_Form.noInt, ?_⟩
    exact ⟨false, rfl, q⟩

theorem ok_is_whole (T : Txt K mg) : FnOk P w K mg base CX0 1 T.a_is_whole T.fd_is_whole ["value"] (sp_is_whole T) :=
  T.F_is_whole.ok sc_is_whole (len_is_whole T) fun cdv A outer s H vs Q E hr h => ⟨t_is_whole w T, (pss_one (ps_ret (pe_and (pe_callB call_isi (by rfl) T.n_isinstance (by decide +kernel) (pa_cons (pv 0) (pa_cons (pe_bltn (v := .ty "int") (by rfl) T.n_int (by decide +kernel) rfl) pa_nil))) (pe_one (pe_not (pe_callB call_isi (by rfl) T.n_isinstance (by decide +kernel) (pa_cons (pv 0) (pa_cons (pe_bltn (v := .ty "bool") (by rfl) T.n_bool (by decide +kernel) rfl) pa_nil)))))))), rd_is_whole T vs H Q E h⟩
end
end CP

namespace CP
open PySem L2
section
variable {P : Program} {w : World} {K : PySem.W.Frag} {mg : Str → Option Value} {base : Heap}
def sp_is_letter (_ : Txt K mg) : Sp := fun vs H Q _ => match vs with
  | [x] => ∃ n, TK K H x n ∧ ((n ≠ "str" ∧ ∀ H', Same H H' → Q (.bl false) H') ∨ ∃ z, n = "str" ∧ x = .str z ∧ z.length ≤ sizeLine ∧ (PyData.str z).canLay0 = true ∧ ∀ H', Same H H' → Q (.bl (letB z)) H')
  | _ => False
def t_is_letter (w : World) (T : Txt K mg) : TS := tSeq (tIfS (tOr (tNot (tB (tCB (rIsi K) (tCons (tVar 0) (tCons (tC (.ty "str")) (tNil)))))) (tNot (tTest (tChain oLe oLe (tC (.int 1)) (tCB oLenS (tCons (tVar 0) (tNil))) (tC (.int 10)))))) (tRet (tC (.bl false))) (tNext)) (tRet (tOp (rEqX K) (tLc (iStr (tVar 0)) (gName 1) (tTest (tOp rNotInS (tVar 1) (tC (c_SMALL)))) (tVar 1) [1]) (tLst (tNil))))
theorem len_is_letter (T : Txt K mg) : ∀ (vs : List V) (H : Hp) (Q : VK) (E : XK), sp_is_letter T vs H Q E → vs.length = (["value"] : List Str).length := by
  intro vs H Q E h
  unfold sp_is_letter at h
  split at h
  all_goals first | rfl | exact h.elim
theorem rd_is_letter (T : Txt K mg) (vs : List V) (H : Hp) (Q : VK) (E : XK) (h : sp_is_letter T vs H Q E) : t_is_letter w T { nx := fun _ H' => Q .non H', rt := Q } (start ["value", "sign"] vs) H := by
  match vs, h with
  | [x], h =>
  obtain ⟨n, ht, h⟩ := h
  unfold t_is_letter
  walk_at "st"
  repeat walk_at "w"
  have e2 : ("str" == "int") = false := by decide
  rcases h with ⟨hn, q⟩ | ⟨z, rfl, rfl, hz, hy, q⟩
  · have e1 : (n == "str") = false := by rw [beq_eq_false_iff_ne]; exact hn
    rw [e1, e2, Bool.and_false, Bool.or_false]
    repeat walk_at "w"
    exact q _ (Same.refl _)
  · have e1 : ("str" == "str" || "str" == "bool" && "str" == "int") = true := by decide
    rw [e1]
    repeat walk_at "w"
    refine r_lenS hz ?_
    repeat walk_at "w"
    unfold letB at q
    refine if_d (fun k1 => ?_) fun k1 => ?_
    · repeat walk_at "w"
      refine if_nd (fun k2 => ?_) fun k2 => ?_
      · repeat walk_at "w"
        rw [decide_eq_false (by omega)] at q
        exact q _ (Same.refl _)
      · repeat walk_at "w"
        rw [decide_eq_true (by omega), Bool.true_and] at q
        have zs : z.length = z.cps.size := rfl
        intro D hD
        refine lc_tellS (β := V) (fun _ x b => x = b) ((z.cps.toList.map fun c => if decide (c ∈ smallT.cps.toList) = true then none else some (V.str ⟨#[c]⟩))) hD (by simp) (by rw [List.length_map, Array.length_toList]; have : sizeLine = 16777216 := rfl; omega) (fun _ _ _ _ _ z => z) (fun i c o H' hc ho s1 _ N no yes => ?_) fun H1 acc s1 hacc pp => ?_
        · have ho : o = if decide (c ∈ smallT.cps.toList) = true then none else some (V.str ⟨#[c]⟩) := by
            rw [List.getElem?_map, Array.getElem?_toList, hc] at ho
            exact (Option.some.inj ho).symm
          subst ho
          repeat walk_at "w"
          refine ⟨rfl, ?_⟩
          repeat walk_at "w"
          refine if_nd (fun k => ?_) fun k => ?_
          · have k : ¬ c ∈ smallT.cps.toList := k
            rw [if_neg (by rw [decide_eq_false k]; decide)] at yes
            repeat walk_at "w"
            exact yes _ _ _ rfl (Same.refl _) rfl
          · have k : c ∈ smallT.cps.toList := k
            rw [if_pos (by rw [decide_eq_true k])] at no
            exact no _ rfl (Same.refl _)
        · have e := pd_eq pp
          rw [List.filterMap_map] at e
          have e3 : acc = strL ((z.cps.toList.filter fun c => !decide (c ∈ smallT.cps.toList)).map fun c => ⟨#[c]⟩) := by
            rw [e]
            unfold strL
            rw [List.map_map]
            generalize z.cps.toList = l
            induction l with
            | nil => rfl
            | cons c l ih =>
              by_cases k : c ∈ smallT.cps.toList
              · rw [List.filterMap_cons_none (by show (if decide (c ∈ smallT.cps.toList) = true then none else _) = none; rw [if_pos (decide_eq_true k)]), List.filter_cons_of_neg (by rw [decide_eq_true k]; decide)]
                exact ih
              · rw [List.filterMap_cons_some (b := V.str ⟨#[c]⟩) (by show (if decide (c ∈ smallT.cps.toList) = true then none else _) = _; rw [if_neg (by rw [decide_eq_false k]; decide)]), List.filter_cons_of_pos (by rw [decide_eq_false k]; rfl), List.map_cons, ih]
                rfl
          rw [e3] at hacc
          have hlow : ∀ c ∈ z.cps.toList, c < 0x110000 := fun c hc => by
            simp only [PyData.canLay0] at hy
            have hy : z.cps.all (· < 0x110000) = true := hy
            rw [← Array.all_toList, List.all_eq_true] at hy
            exact of_decide_eq_true (hy c hc)
          repeat walk_at "w"
          rename_i L HL L0 sL hL
          have q' := q HL (s1.trans sL)
          refine nil_eqX (.of (CP.Same.to sL hacc)) (.of hL) (strs_dp fun x hx => ?_) ?_
          · obtain ⟨c, hc, rfl⟩ := List.mem_map.mp hx
            have := hlow c (List.mem_filter.mp hc).1
            simp only [PyData.canLay0]
            show (#[c] : Array Nat).all (· < 0x110000) = true
            simp [this]
          · have e4 : (strL ((z.cps.toList.filter fun c => !decide (c ∈ smallT.cps.toList)).map fun c => ⟨#[c]⟩)).isEmpty = z.cps.toList.all fun c => decide (c ∈ smallT.cps.toList) := by
              unfold strL
              rw [Bool.eq_iff_iff, List.isEmpty_iff, List.map_eq_nil_iff, List.map_eq_nil_iff, List.filter_eq_nil_iff, List.all_eq_true]
              refine forall_congr' fun c => forall_congr' fun _ => ?_
              cases decide (c ∈ smallT.cps.toList) <;> simp
            rw [e4]
            exact q'
    · repeat walk_at "w"
      rw [decide_eq_false (by omega)] at q
      exact q _ (Same.refl _)

theorem ok_is_letter (T : Txt K mg) : FnOk P w K mg base CX0 1 T.a_is_letter T.fd_is_letter ["value"] (sp_is_letter T) :=
  T.F_is_letter.ok sc_is_letter (len_is_letter T) fun cdv A outer s H vs Q E hr h => ⟨t_is_letter w T, (pss_cons (ps_if (PW.pt (pw_or (pt_not (pt_val (pe_callB call_isi (by rfl) T.n_isinstance (by decide +kernel) (pa_cons (pv 0) (pa_cons (pe_bltn (v := .ty "str") (by rfl) T.n_str (by decide +kernel) rfl) pa_nil))))) (pw_or1 (pt_not (pt_chain op_le op_le pe_int (pe_callB call_len_str (by rfl) T.n_len (by decide +kernel) (pa_cons (pv 0) pa_nil)) pe_int))))) (pss_one (ps_ret pe_bl)) pss_nil)
      (pss_one (ps_ret (pe_cmpR (op_eqX hr.units) (pe_lc (own := [("sign", 1)]) (g := (gName 1)) (tt := tTest (tOp rNotInS (tVar 1) (tC (c_SMALL)))) (te := tVar 1) rfl sc_is_letter.nd (pi_str (pv 0)) (blkOk_by (own := [("sign", 1)]) (N := ["value", "sign"]) (sc := defScope s_is_letter) (by decide +kernel)) (fun _ _ _ _ _ => (pg_name (i := 1) sc_is_letter.nd rfl (Or.inl rfl))) (fun _ _ _ _ _ => (pts_one (pt_cmpR op_notInS (pv 1) (pe_glob (by rfl) T.m_SMALL.1 T.m_SMALL.2) (by rfl)))) (fun _ _ _ _ _ => (pv 1))) (pe_lst pa_nil) (nomark _))))), rd_is_letter T vs H Q E h⟩
end
end CP

namespace CP
open PySem L2
section
variable {P : Program} {w : World} {K : PySem.W.Frag} {mg : Str → Option Value} {base : Heap}
def sp_check_letter (T : Txt K mg) : Sp := fun vs H Q _ => match vs with
  | [.str z] => letB z = true ∧ ∀ H', Same H H' → Q .non H'
  | _ => False
def t_check_letter (w : World) (T : Txt K mg) : TS := tIfS (tNot (tB (tCall (sp_is_letter T) [] E0 (tCons (tVar 0) (tNil))))) (tNever) (tNext)
theorem len_check_letter (T : Txt K mg) : ∀ (vs : List V) (H : Hp) (Q : VK) (E : XK), sp_check_letter T vs H Q E → vs.length = (["name"] : List Str).length := by
  intro vs H Q E h
  unfold sp_check_letter at h
  split at h
  all_goals first | rfl | exact h.elim
theorem rd_check_letter (T : Txt K mg) (vs : List V) (H : Hp) (Q : VK) (E : XK) (h : sp_check_letter T vs H Q E) : t_check_letter w T { nx := fun _ H' => Q .non H', rt := Q } (start ["name"] vs) H := by
  match vs, h with
  | [.str z], h =>
  obtain ⟨hz, q⟩ := h
  unfold t_check_letter
  walk_at "st"
  repeat walk_at "w"
  refine ⟨"str", tk_str, .inr ⟨z, rfl, rfl, by have := let_len hz; have : sizeLine = 16777216 := rfl; omega, let_lay hz, fun H' s => ?_⟩⟩
  rw [hz]
  repeat walk_at "w"
  exact q H' s

theorem ok_check_letter (T : Txt K mg) : FnOk P w K mg base CX0 2 T.a_check_letter T.fd_check_letter ["name"] (sp_check_letter T) :=
  T.F_check_letter.ok sc_check_letter (len_check_letter T) fun cdv A outer s H vs Q E hr h => ⟨t_check_letter w T, (pss_one (ps_if (pt_not (pt_val (pe_call (ok_is_letter T) (hr.mono (by decide)) (by rfl) T.m_is_letter T.F_is_letter.kp (b_is_letter T) .nil pass0 (pa_cons (pv 0) pa_nil)))) (pss_one ps_never) pss_nil)), rd_check_letter T vs H Q E h⟩
end
end CP

namespace CP
open PySem L2
section
variable {P : Program} {w : World} {K : PySem.W.Frag} {mg : Str → Option Value} {base : Heap}
def sp_check_form (T : Txt K mg) : Sp := fun vs H Q _ => match vs with
  | [.ref o] => ∃ dx fs, H o = some (.ins T.a_Form dx fs) ∧ Q .non H
  | _ => False
def t_check_form (w : World) (T : Txt K mg) : TS := tIfS (tNot (tB (tCB (rIsi K) (tCons (tVar 0) (tCons (tC (.ref T.a_Form)) (tNil)))))) (tNever) (tNext)
theorem len_check_form (T : Txt K mg) : ∀ (vs : List V) (H : Hp) (Q : VK) (E : XK), sp_check_form T vs H Q E → vs.length = (["form"] : List Str).length := by
  intro vs H Q E h
  unfold sp_check_form at h
  split at h
  all_goals first | rfl | exact h.elim
theorem rd_check_form (T : Txt K mg) (vs : List V) (H : Hp) (Q : VK) (E : XK) (h : sp_check_form T vs H Q E) : t_check_form w T { nx := fun _ H' => Q .non H', rt := Q } (start ["form"] vs) H := by
  match vs, h with
  | [.ref o], h =>
  obtain ⟨dx, fs, ho, q⟩ := h
  unfold t_check_form
  walk_at "st"
  repeat walk_at "w"
  refine r_isiC ho T.I_Form ?_
  repeat walk_at "w"
  exact q

theorem ok_check_form (T : Txt K mg) : FnOk P w K mg base CX0 1 T.a_check_form T.fd_check_form ["form"] (sp_check_form T) :=
  T.F_check_form.ok sc_check_form (len_check_form T) fun cdv A outer s H vs Q E hr h => ⟨t_check_form w T, (pss_one (ps_if (pt_not (pt_val (pe_callB call_isi (by rfl) T.n_isinstance (by decide +kernel) (pa_cons (pv 0) (pa_cons (pe_glob (v := .ref T.a_Form) (by rfl) T.m_Form rfl) pa_nil))))) (pss_one ps_never) pss_nil)), rd_check_form T vs H Q E h⟩
end
end CP

namespace CP
open PySem L2
section
variable {P : Program} {w : World} {K : PySem.W.Frag} {mg : Str → Option Value} {base : Heap}
def sp_are_values (_ : Txt K mg) : Sp := fun vs H Q _ => match vs with
  | [.ref d] => ∃ kv, H d = some (.dK (dV kv)) ∧ (∀ p ∈ kv, letB p.1 = true) ∧ (kv.map (·.1)).Nodup ∧ kv.length < 2000 ∧ ∀ H', Same H H' → Q (.bl true) H'
  | _ => False
def t_are_values (w : World) (T : Txt K mg) : TS := tSeq (tIfS (tNot (tB (tCB (rIsi K) (tCons (tVar 0) (tCons (tC (.ty "dict")) (tNil)))))) (tRet (tC (.bl false))) (tNext)) (tRet (tOp (rEqX K) (tLockE (tLc (iKeys (tVar 0)) (gName 1) (tOr (tNot (tB (tCall (sp_is_letter T) [] E0 (tCons (tVar 1) (tNil))))) (tNot (tB (tCall (sp_is_whole T) [] E0 (tCons (tDGet (tVar 0) (tVar 1)) (tNil)))))) (tVar 1) [1])) (tLst (tNil))))
theorem len_are_values (T : Txt K mg) : ∀ (vs : List V) (H : Hp) (Q : VK) (E : XK), sp_are_values T vs H Q E → vs.length = (["value"] : List Str).length := by
  intro vs H Q E h
  unfold sp_are_values at h
  split at h
  all_goals first | rfl | exact h.elim
theorem rd_are_values (T : Txt K mg) (vs : List V) (H : Hp) (Q : VK) (E : XK) (h : sp_are_values T vs H Q E) : t_are_values w T { nx := fun _ H' => Q .non H', rt := Q } (start ["value", "name"] vs) H := by
  match vs, h with
  | [.ref d], h =>
  obtain ⟨kv, hd, hl, nd, hz, q⟩ := h
  have sz : sizeLine = 16777216 := rfl
  unfold t_are_values
  walk_at "st"
  repeat walk_at "w"
  refine r_isi (n := "dict") (tk_dK hd) (by decide) ?_
  rw [show ("dict" == "dict" || ("dict" == "bool" && "dict" == "int")) = true by decide]
  repeat walk_at "w"
  refine r_lockE hd fun od H1 h1 k1 sm => ?_
  repeat walk_at "w"
  refine ⟨d, od, rfl, .inl ⟨_, h1, fun D hD => lc_keysN hD h1 (by unfold dV; rw [List.length_map]; omega) (fun i k v H2 hk s2 N no yes => ?_) fun H2 s2 hacc => ?_⟩⟩
  · obtain ⟨p, hp, rfl, rfl⟩ := dV_get hk
    have lp := hl p hp
    have h2 := CP.Same.to s2 h1
    repeat walk_at "w"
    refine ⟨rfl, ?_⟩
    repeat walk_at "w"
    refine ⟨"str", tk_str, .inr ⟨p.1, rfl, rfl, by have := let_len lp; omega, let_lay lp, fun H3 s3 => ?_⟩⟩
    rw [lp]
    repeat walk_at "w"
    refine r_dgetF (CP.Same.to s3 h2) (by rw [dV_val, getD_mem nd hp]; rfl) ?_
    repeat walk_at "w"
    refine ⟨"int", .inl tk_int, ?_⟩
    repeat walk_at "w"
    exact no _ rfl s3
  have dD : D ≠ d := fun e => by rw [e, h1] at hD; cases hD
  refine ⟨CP.Same.to s2 h1, ?_⟩
  have S := sm H2 s2
  have hacc : (upd H2 d (.dK (dV kv))) D = some (.lst []) := by rw [upd_ne dD]; exact hacc
  generalize upd H2 d (.dK (dV kv)) = H3 at *
  repeat walk_at "w"
  rename_i M H4 M0 s4 hM
  refine nil_eqX0 (.of (CP.Same.to s4 hacc)) (.of hM) ?_
  repeat walk_at "w"
  exact q _ (S.trans s4)

theorem ok_are_values (T : Txt K mg) : FnOk P w K mg base CX0 2 T.a_are_values T.fd_are_values ["value"] (sp_are_values T) :=
  T.F_are_values.ok sc_are_values (len_are_values T) fun cdv A outer s H vs Q E hr h => ⟨t_are_values w T, (pss_cons (ps_if (pt_not (pt_val (pe_callB call_isi (by rfl) T.n_isinstance (by decide +kernel) (pa_cons (pv 0) (pa_cons (pe_bltn (v := .ty "dict") (by rfl) T.n_dict (by decide +kernel) rfl) pa_nil))))) (pss_one (ps_ret pe_bl)) pss_nil)
      (pss_one (ps_ret (pe_cmpR (op_eqX hr.units) (pe_lock (pe_lc (own := [("name", 1)]) (g := (gName 1)) (tt := tOr (tNot (tB (tCall (sp_is_letter T) [] E0 (tCons (tVar 1) (tNil))))) (tNot (tB (tCall (sp_is_whole T) [] E0 (tCons (tDGet (tVar 0) (tVar 1)) (tNil)))))) (te := tVar 1) rfl sc_are_values.nd (pi_keys (pv 0)) (blkOk_by (own := [("name", 1)]) (N := ["value", "name"]) (sc := defScope s_are_values) (by decide +kernel)) (fun _ _ _ _ _ => (pg_name (i := 1) sc_are_values.nd rfl (Or.inl rfl))) (fun _ _ _ _ _ => (pts_one (PW.pt (pw_or (pt_not (pt_val (pe_call (ok_is_letter T) (hr.mono (by decide)) (by rfl) T.m_is_letter T.F_is_letter.kp (b_is_letter T) .nil pass0 (pa_cons (pv 1) pa_nil)))) (pw_or1 (pt_not (pt_val (pe_call (ok_is_whole T) (hr.mono (by decide)) (by rfl) T.m_is_whole T.F_is_whole.kp (b_is_whole T) .nil pass0 (pa_cons (pe_dget (hu_of hr) (pv 0) (pv 1) (fun _ _ => rfl)) pa_nil))))))))) (fun _ _ _ _ _ => (pv 1)))) (pe_lst pa_nil) (nomark _))))), rd_are_values T vs H Q E h⟩
end
end CP

namespace CP
open PySem L2
section
variable {P : Program} {w : World} {K : PySem.W.Frag} {mg : Str → Option Value} {base : Heap}
def sp_common (_ : Txt K mg) : Sp := fun vs H Q _ => match vs with
  | [.int a, .int b] => Q (.int (Int.gcd a b : Nat)) H
  | _ => False
def t_common (w : World) (T : Txt K mg) : TS := tSeq (tWhile (tTest (tOp rNe (tVar 1) (tC (.int 0)))) (tPar 0 1 (tCons (tVar 1) (tCons (tOp oModN (tVar 0) (tVar 1)) (tNil))))) (tRet (tCB oAbs (tCons (tVar 0) (tNil))))
theorem len_common (T : Txt K mg) : ∀ (vs : List V) (H : Hp) (Q : VK) (E : XK), sp_common T vs H Q E → vs.length = (["one", "other"] : List Str).length := by
  intro vs H Q E h
  unfold sp_common at h
  split at h
  all_goals first | rfl | exact h.elim
theorem rd_common (T : Txt K mg) (vs : List V) (H : Hp) (Q : VK) (E : XK) (h : sp_common T vs H Q E) : t_common w T { nx := fun _ H' => Q .non H', rt := Q } (start ["one", "other"] vs) H := by
  match vs, h with
  | [.int a, .int b], q =>
  have q : Q (.int (Int.gcd a b : Nat)) H := q
  unfold t_common
  walk_at "st"
  repeat walk_at "s"
  refine r_whileD (fun (z : Int × Int) σ H' => H' = H ∧ Int.gcd z.1 z.2 = Int.gcd a b ∧ σ = [some (.int z.1), some (.int z.2)]) (fun z => z.2.natAbs) (fun z => !decide (z.2 = 0)) (a, b) ⟨rfl, rfl, rfl⟩ ?_ ?_ ?_
  · rintro ⟨i, j⟩ σ H' ⟨rfl, g, rfl⟩ P hP
    repeat walk_at "s"
    exact hP
  · rintro ⟨i, j⟩ σ H' ⟨rfl, g, rfl⟩ hk
    have hk : j ≠ 0 := by simpa using hk
    dsimp only at g ⊢
    repeat walk_at "s"
    exact ⟨(j, i.fmod j), ⟨rfl, gcd_fmod.trans g, rfl⟩, fmod_less hk⟩
  · rintro ⟨i, j⟩ σ H' ⟨rfl, g, rfl⟩ hk
    have hk : j = 0 := by simpa using hk
    subst hk
    dsimp only at g ⊢
    rw [Int.gcd_zero_right] at g
    repeat walk_at "s"
    rw [show (if i < 0 then -i else i) = ((Int.gcd a b : Nat) : Int) by rw [← g]; split <;> omega]
    exact q

theorem ok_common (T : Txt K mg) : FnOk P w K mg base CX0 1 T.a_common T.fd_common ["one", "other"] (sp_common T) :=
  T.F_common.ok sc_common (len_common T) fun cdv A outer s H vs Q E hr h => ⟨t_common w T, (pss_cons (ps_while PassesOwn.never (pt_cmpR op_ne (pv 1) pe_int (nomark _)) (pss_one (ps_par (i := 0) (j := 1) rfl sc_common.nd rfl rfl (by decide) rfl rfl (pa_cons (pv 1) (pa_cons (pe_op op_modN (pv 0) (pv 1)) pa_nil)) (by rfl))))
      (pss_one (ps_ret (pe_callB call_absA (by rfl) T.n_abs (by decide +kernel) (pa_cons (pv 0) pa_nil))))), rd_common T vs H Q E h⟩
end
end CP

namespace CP
open PySem L2
section
variable {P : Program} {w : World} {K : PySem.W.Frag} {mg : Str → Option Value} {base : Heap}
def sp_Form___init (T : Txt K mg) : Sp := fun vs H Q _ => match vs with
  | [.ref o, .ref d, .int u] => ∃ dx, H o = some (.ins T.a_Form dx []) ∧ ∀ H', SB o H H' → H' o = some (.ins T.a_Form dx [("rows", .ref d), ("under", .int u)]) → Q .non H'
  | _ => False
theorem form_new (T : Txt K mg) {H : Hp} {d : Addr} {n : Int} {Q : Addr → Hp → Prop} {E : XK} (q : ∀ o dx H', H o = none → Same H H' → H' o = some (.ins T.a_Form dx [("rows", .ref d), ("under", .int n)]) → Q o H') :
    ∀ x dx, H x = none → H dx = none → dx ≠ x → sp_Form___init T (.ref x :: ([.ref d, .int n] ++ [])) (upd (upd H dx (.own x)) x (.ins T.a_Form dx [])) (fun v H2 => v = .non ∧ Q x H2) E := by
  intro o dx o0 dx0 ne
  have s : Same H (upd (upd H dx (.own o)) o (.ins T.a_Form dx [])) := fun b u hb => by rw [upd_ne (ne_of_none hb o0), upd_ne (ne_of_none hb dx0)]; exact hb
  exact ⟨dx, upd_same, fun H2 b2 h2 => ⟨rfl, q o dx H2 o0 (CP.Same.sb s o0 b2) h2⟩⟩
def t_Form___init (w : World) (T : Txt K mg) : TS := tSeq (sFld K (tVar 0) (tVar 1) "rows") (sFld K (tVar 0) (tVar 2) "under")
theorem len_Form___init (T : Txt K mg) : ∀ (vs : List V) (H : Hp) (Q : VK) (E : XK), sp_Form___init T vs H Q E → vs.length = (["self", "rows", "under"] : List Str).length := by
  intro vs H Q E h
  unfold sp_Form___init at h
  split at h
  all_goals first | rfl | exact h.elim
theorem rd_Form___init (T : Txt K mg) (vs : List V) (H : Hp) (Q : VK) (E : XK) (h : sp_Form___init T vs H Q E) : t_Form___init w T { nx := fun _ H' => Q .non H', rt := Q } (start ["self", "rows", "under"] vs) H := by
  match vs, h with
  | [.ref o, .ref d, .int u], h =>
  obtain ⟨dx, ho, q⟩ := h
  unfold t_Form___init
  walk_at "st"
  repeat walk_at "w"
  refine r_fput ho T.c_Form T.n_Form_rows (by decide) fun H1 b1 h1 => ?_
  repeat walk_at "w"
  refine r_fput h1 T.c_Form T.n_Form_under (show 1 < 1000 by decide) fun H2 b2 h2 => ?_
  exact q H2 (SB.trans' b1 b2) h2

theorem ok_Form___init (T : Txt K mg) : FnOk P w K mg base CX0 1 T.a_Form___init T.fd_Form___init ["self", "rows", "under"] (sp_Form___init T) :=
  T.F_Form___init.ok sc_Form___init (len_Form___init T) fun cdv A outer s H vs Q E hr h => ⟨t_Form___init w T, (pss_cons (ps_fld (pv 0) (pv 1) rfl)
      (pss_one (ps_fld (pv 0) (pv 2) rfl))), rd_Form___init T vs H Q E h⟩
end
end CP

namespace CP
open PySem L2
section
variable {P : Program} {w : World} {K : PySem.W.Frag} {mg : Str → Option Value} {base : Heap}
/-- a form whose rows are new since H0 -/
def FormN (C : Addr) (H0 H : Hp) (o : Addr) (f : Fm) : Prop := ∃ dx d, H o = some (.ins C dx [("rows", .ref d), ("under", .int f.2)]) ∧ H d = some (.dT (rowsT f.1)) ∧ H0 d = none
theorem FormN.at {C : Addr} {H0 H : Hp} {o : Addr} {f : Fm} (h : FormN C H0 H o f) : FormAt C H o f := by
  obtain ⟨dx, d, h1, h2, _⟩ := h
  exact ⟨dx, d, h1, h2⟩
theorem FormN.mono {C : Addr} {H0 H H' : Hp} {o : Addr} {f : Fm} (h : FormN C H0 H o f) (s : Same H H') : FormN C H0 H' o f := by
  obtain ⟨dx, d, h1, h2, h3⟩ := h
  exact ⟨dx, d, s _ _ h1, s _ _ h2, h3⟩
theorem FormN.back {C : Addr} {H0 H1 H : Hp} {o : Addr} {f : Fm} (h : FormN C H1 H o f) (s : Same H0 H1) : FormN C H0 H o f := by
  obtain ⟨dx, d, h1, h2, h3⟩ := h
  exact ⟨dx, d, h1, h2, L2.Same.free s h3⟩
def sp_made (T : Txt K mg) : Sp := fun vs H Q _ => match vs with
  | [.ref d, .int u] => ∃ rs, H d = some (.dT (rowsT rs)) ∧ (rs.map (·.1)).Nodup ∧ rs.length ≤ 1000000 ∧ 0 < u ∧ u < 2 ^ 400 ∧ ∀ o H', H o = none → Same H H' → FormN T.a_Form H H' o (madeM rs u) → Q (.ref o) H'
  | _ => False
def t_made (w : World) (T : Txt K mg) : TS := tSeq (tLock (tAsg (tDg (.dT []) (iItemsT (tVar 0)) (gTup K 2 (gCons (gName 3) (gCons (gName 4) gNil))) (tTest (tOp rNe (tVar 4) (tC (.int 0)))) (tVar 3) (tVar 4) [3, 4]) (gName 2))) (tSeq (tAsg (tVar 1) (gName 5)) (tSeq (tLock (tFor (iValsT (tVar 2)) (gName 4) (tAsg (tCall (sp_common T) [] E0 (tCons (tVar 5) (tCons (tVar 4) (tNil)))) (gName 5)))) (tRet (tMake T.a_Form (sp_Form___init T) [] E0 (tCons (tLockE (tDg (.dT []) (iItemsT (tVar 2)) (gTup K 2 (gCons (gName 3) (gCons (gName 4) gNil))) (tYes) (tVar 3) (tOp oDiv (tVar 4) (tVar 5)) [3, 4])) (tCons (tOp oDiv (tVar 1) (tVar 5)) (tNil)))))))
theorem len_made (T : Txt K mg) : ∀ (vs : List V) (H : Hp) (Q : VK) (E : XK), sp_made T vs H Q E → vs.length = (["rows", "under"] : List Str).length := by
  intro vs H Q E h
  unfold sp_made at h
  split at h
  all_goals first | rfl | exact h.elim
theorem rd_made (T : Txt K mg) (vs : List V) (H : Hp) (Q : VK) (E : XK) (h : sp_made T vs H Q E) : t_made w T { nx := fun _ H' => Q .non H', rt := Q } (start ["rows", "under", "kept", "product", "many", "divisor"] vs) H := by
  match vs, h with
  | [.ref d, .int u], h =>
  obtain ⟨rs, hd, nd, few, u0, u1, q⟩ := h
  have sz : sizeLine = 16777216 := rfl
  unfold t_made
  walk_at "st"
  walk_at "w"
  refine r_lockTS hd fun od H1 h1 k1 sm => ?_
  walk_at "w"
  refine r_dg ?_
  refine r_iItemsT ?_
  walk_at "w"
  refine ⟨d, od, _, rfl, h1, fun D D0 => dg_itp (rs.map fun r => (if r.2 = 0 then none else some r.2).map V.int) (rowsT_nd nd) D0 h1 (by rw [rowsT_len, List.length_map]) (by rw [rowsT_len]; omega) (fun i k v o t q H2 H3 N hk ho s2 t0 hq s3 ht no yes => ?_) fun H2 s2 hD => ?_⟩
  · obtain ⟨r, hr, rfl, rfl⟩ := rowsT_get hk
    have ho : o = (if r.2 = 0 then none else some r.2).map V.int := by
      rw [List.getElem?_map, hr] at ho
      exact (Option.some.inj ho).symm
    repeat walk_at "w"
    refine ⟨rfl, ?_⟩
    repeat walk_at "w"
    refine if_nd (fun k => ?_) fun k => ?_
    · repeat walk_at "w"
      exact yes _ (by rw [ho, if_neg k]; rfl) H3 (Same.refl _)
    · exact no (by rw [ho, if_pos k]; rfl) H3 (Same.refl _)
  rw [acc_rows, kept_eq] at hD
  refine ⟨CP.Same.to s2 h1, ?_⟩
  have S := sm H2 s2
  have dD : D ≠ d := fun e => by rw [e, h1] at D0; cases D0
  replace hD : (upd H2 d (.dT (rowsT rs))) D = some (.dT (rowsT (keptM rs))) := by rw [upd_ne dD]; exact hD
  generalize upd H2 d (.dT (rowsT rs)) = H3 at S hD ⊢
  clear s2 h1 k1 sm D0
  repeat walk_at "w"
  refine r_lockTS hD fun od2 H4 h4 k4 sm4 => ?_
  repeat walk_at "w"
  refine r_iValsT ?_
  repeat walk_at "w"
  have kn := kept_nd nd
  have kl := kept_len rs
  obtain ⟨g0, g1⟩ := divM_pos (rs := keptM rs) u0
  refine ⟨D, od2, _, rfl, h4, for_itv (fun i σ H' => H' = H4 ∧ ∃ x3 x4, σ = [some (.ref d), some (.int u), some (.ref D), x3, x4, some (.int (divM ((keptM rs).take i) u))]) ⟨rfl, _, _, rfl⟩ (fun i σ H' _ w => w.1 ▸ h4) ?_ ?_⟩
  · rintro i k v σ H5 hk ⟨rfl, x3, x4, rfl⟩
    obtain ⟨r, hr, rfl, rfl⟩ := rowsT_get hk
    repeat walk_at "w"
    have e := divM_succ (u := u) hr
    exact ⟨rfl, x3, some (.int r.2), by rw [e]; rfl⟩
  · rintro σ H5 ⟨rfl, x3, x4, rfl⟩
    rw [rowsT_len, List.take_length]
    refine ⟨h4, ?_⟩
    have S5 := S.trans (sm4 H5 (Same.refl _))
    have hD5 : (upd H5 D (.dT (rowsT (keptM rs)))) D = some (.dT (rowsT (keptM rs))) := upd_same
    generalize upd H5 D (.dT (rowsT (keptM rs))) = H6 at S5 hD5 ⊢
    have fin : ∀ o H', H o = none → Same H H' → FormN T.a_Form H H' o ((keptM rs).map (fun r => (r.1, r.2 / divM (keptM rs) u)), u / divM (keptM rs) u) → Q (.ref o) H' := q
    generalize divM (keptM rs) u = G at *
    clear h4 k4 sm4 hD S q
    repeat walk_at "w"
    refine r_lockT hD5 fun od3 H7 h7 k7 sm7 => ?_
    refine r_dg ?_
    refine r_iItemsT ?_
    repeat walk_at "w"
    refine ⟨D, od3, _, rfl, h7, fun D2 D20 => dg_itp ((keptM rs).map fun r => (some (r.2 / G)).map V.int) (rowsT_nd kn) D20 h7 (by rw [rowsT_len, List.length_map]) (by rw [rowsT_len]; omega) (fun i k v o t q H8 H9 N hk ho s8 t0 hq s9 ht no yes => ?_) fun H8 s8 hD2 => ?_⟩
    · obtain ⟨r, hr, rfl, rfl⟩ := rowsT_get hk
      have ho : o = (some (r.2 / G)).map V.int := by
        rw [List.getElem?_map, hr] at ho
        exact (Option.some.inj ho).symm
      repeat walk_at "w"
      refine ⟨rfl, r_yes (if_t ?_)⟩
      repeat walk_at "w"
      exact yes _ ho H9 (Same.refl _)
    rw [acc_rows, div_eq] at hD2
    refine ⟨CP.Same.to s8 h7, ?_⟩
    have D2D : D2 ≠ D := fun e => by rw [e, h7] at D20; cases D20
    have D2H : H6 D2 = none := by
      cases e : H6 D2 with
      | none => rfl
      | some w => rw [k7 _ _ D2D e] at D20; cases D20
    have S8 := S5.trans (sm7 H8 s8)
    replace hD2 : (upd H8 D (.dT (rowsT (keptM rs)))) D2 = some (.dT (rowsT ((keptM rs).map fun r => (r.1, r.2 / G)))) := by rw [upd_ne D2D]; exact hD2
    generalize upd H8 D (.dT (rowsT (keptM rs))) = H9 at S8 hD2 ⊢
    repeat walk_at "w"
    refine form_new T fun o dx H10 o0 s10 ho => ?_
    repeat walk_at "w"
    refine fin o H10 (L2.Same.free S8 o0) (S8.trans s10) ⟨dx, D2, ho, CP.Same.to s10 hD2, L2.Same.free S5 D2H⟩

theorem ok_made (T : Txt K mg) : FnOk P w K mg base CX0 3 T.a_made T.fd_made ["rows", "under"] (sp_made T) :=
  T.F_made.ok sc_made (len_made T) fun cdv A outer s H vs Q E hr h => ⟨t_made w T, (pss_cons (ps_lock (ps_setDg (i := 2) (o := .dT []) (own := [("product", 3), ("many", 4)]) (g := (gTup K 2 (gCons (gName 3) (gCons (gName 4) gNil)))) (tt := tTest (tOp rNe (tVar 4) (tC (.int 0)))) (tk := tVar 3) (tv := tVar 4) .t hr.units0 rfl sc_made.nd rfl rfl (swd_true rfl rfl rfl (by decide +kernel)) (pi_itemsT (pv 0)) (blkOk_by (own := [("product", 3), ("many", 4)]) (N := ["rows", "under", "kept", "product", "many", "divisor"]) (sc := defScope s_made) (by decide +kernel)) (fun _ _ _ _ _ => (pg_tup rfl (pgs_cons (pg_name (i := 3) sc_made.nd rfl (Or.inl rfl)) (pgs_cons (pg_name (i := 4) sc_made.nd rfl (Or.inl rfl)) pgs_nil)))) (fun _ _ _ _ _ => (pts_one (pt_cmpR op_ne (pv 4) pe_int (nomark _)))) (fun _ _ _ _ _ => (pv 3)) (fun _ _ _ _ _ => (pv 4))))
      (pss_cons (ps_set (i := 5) sc_made.nd rfl (Or.inr rfl) (pv 1))
      (pss_cons (ps_lock (ps_for PassesOwn.never rfl (pi_valuesT (pv 2)) (pg_name (i := 4) sc_made.nd rfl (Or.inl rfl)) (pss_one (ps_set (i := 5) sc_made.nd rfl (Or.inr rfl) (pe_call (ok_common T) (hr.mono (by decide)) (by rfl) T.m_common T.F_common.kp (b_common T) .nil pass0 (pa_cons (pv 5) (pa_cons (pv 4) pa_nil)))))))
      (pss_one (ps_ret (pe_make T.k_Form (ok_Form___init T) (hr.mono (by decide)) (by rfl) T.m_Form (b_Form___init T) .nil pass0 (pa_cons (pe_lock (pe_dg (o := .dT []) (own := [("product", 3), ("many", 4)]) (g := (gTup K 2 (gCons (gName 3) (gCons (gName 4) gNil)))) (tt := tYes) (tk := tVar 3) (tv := tOp oDiv (tVar 4) (tVar 5)) .t hr.units0 rfl sc_made.nd (pi_itemsT (pv 2)) (blkOk_by (own := [("product", 3), ("many", 4)]) (N := ["rows", "under", "kept", "product", "many", "divisor"]) (sc := defScope s_made) (by decide +kernel)) (fun _ _ _ _ _ => (pg_tup rfl (pgs_cons (pg_name (i := 3) sc_made.nd rfl (Or.inl rfl)) (pgs_cons (pg_name (i := 4) sc_made.nd rfl (Or.inl rfl)) pgs_nil)))) (fun _ _ _ _ _ => pts_nil) (fun _ _ _ _ _ => (pv 3)) (fun _ _ _ _ _ => (pe_op op_fdivW (pv 4) (pv 5))))) (pa_cons (pe_op op_fdivW (pv 1) (pv 5)) pa_nil)))))))), rd_made T vs H Q E h⟩
end
end CP

namespace CP
open PySem L2
section
variable {P : Program} {w : World} {K : PySem.W.Frag} {mg : Str → Option Value} {base : Heap}
def sp_as_form (T : Txt K mg) : Sp := fun vs H Q _ => match vs with
  | [.ref o] => ∃ dx fs, H o = some (.ins T.a_Form dx fs) ∧ Q (.ref o) H
  | [.int n] => ∀ o H', H o = none → Same H H' → FormN T.a_Form H H' o (madeM [([], n)] 1) → Q (.ref o) H'
  | _ => False
/-- what as_form takes: a form, or a whole number -/
def OpAt (C : Addr) (H : Hp) (v : V) (g : Fm) : Prop := (∃ u, v = .ref u ∧ FormAt C H u g) ∨ ∃ n, v = .int n ∧ g = madeM [([], n)] 1
theorem as_ask {T : Txt K mg} {H : Hp} {v : V} {g : Fm} {Q : VK} {E : XK} (h : OpAt T.a_Form H v g) (q : ∀ u H1, Same H H1 → FormAt T.a_Form H1 u g → Q (.ref u) H1) : sp_as_form T [v] H Q E := by
  rcases h with ⟨u, rfl, hg⟩ | ⟨n, rfl, rfl⟩
  · obtain ⟨dy, e, hu, he⟩ := id hg
    exact ⟨dy, _, hu, q u H (Same.refl _) hg⟩
  · exact fun u H1 u0 s1 hg => q u H1 s1 hg.at
/-- the same, apart from a dict that stands -/
def OpBy (C : Addr) (H : Hp) (d : Addr) (v : V) (g : Fm) : Prop := (∃ u dy e, v = .ref u ∧ H u = some (.ins C dy [("rows", .ref e), ("under", .int g.2)]) ∧ H e = some (.dT (rowsT g.1)) ∧ d ≠ e) ∨ ∃ n, v = .int n ∧ g = madeM [([], n)] 1
theorem as_by {T : Txt K mg} {H : Hp} {d : Addr} {o : HO} {v : V} {g : Fm} {Q : VK} {E : XK} (hd : H d = some o) (h : OpBy T.a_Form H d v g) (q : ∀ u H1 dy e, Same H H1 → H1 u = some (.ins T.a_Form dy [("rows", .ref e), ("under", .int g.2)]) → H1 e = some (.dT (rowsT g.1)) → d ≠ e → Q (.ref u) H1) : sp_as_form T [v] H Q E := by
  rcases h with ⟨u, dy, e, rfl, hu, he, n⟩ | ⟨n, rfl, rfl⟩
  · exact ⟨dy, _, hu, q u H dy e (Same.refl _) hu he n⟩
  · refine fun u H1 u0 s1 hg => ?_
    obtain ⟨dy, e, hu, he, e0⟩ := hg
    exact q u H1 dy e s1 hu he (ne_of_none hd e0)
def t_as_form (w : World) (T : Txt K mg) : TS := tSeq (tIfS (tB (tCall (sp_is_whole T) [] E0 (tCons (tVar 0) (tNil)))) (tRet (tCall (sp_made T) [] E0 (tCons (tDispT (tTup (tNil)) (tVar 0)) (tCons (tC (.int 1)) (tNil))))) (tNext)) (tSeq (tDrop (tCall (sp_check_form T) [] E0 (tCons (tVar 0) (tNil)))) (tRet (tVar 0)))
theorem len_as_form (T : Txt K mg) : ∀ (vs : List V) (H : Hp) (Q : VK) (E : XK), sp_as_form T vs H Q E → vs.length = (["value"] : List Str).length := by
  intro vs H Q E h
  unfold sp_as_form at h
  split at h
  all_goals first | rfl | exact h.elim
theorem rd_as_form (T : Txt K mg) (vs : List V) (H : Hp) (Q : VK) (E : XK) (h : sp_as_form T vs H Q E) : t_as_form w T { nx := fun _ H' => Q .non H', rt := Q } (start ["value"] vs) H := by
  match vs, h with
  | [.ref o], h =>
  obtain ⟨dx, fs, ho, q⟩ := h
  unfold t_as_form
  walk_at "st"
  repeat walk_at "w"
  refine ⟨"form", .inr ⟨rfl, o, dx, fs, rfl, ho⟩, ?_⟩
  rw [show ("form" == "int") = false by decide]
  repeat walk_at "w"
  refine ⟨dx, fs, ho, ?_⟩
  repeat walk_at "w"
  exact q
  | [.int n], q =>
  have q : ∀ o H', H o = none → Same H H' → FormN T.a_Form H H' o (madeM [([], n)] 1) → Q (.ref o) H' := q
  unfold t_as_form
  walk_at "st"
  repeat walk_at "w"
  refine ⟨"int", .inl tk_int, ?_⟩
  rw [show ("int" == "int") = true by decide]
  repeat walk_at "w"
  refine r_dispT fun d H2 d0 s2 hd => ?_
  repeat walk_at "w"
  rename_i t H3 t0 s3 ht
  refine ⟨CP.Same.to s3 hd, keyT [], t, rfl, ht, ?_⟩
  have S3 := s2.trans s3
  have sb : SB d H3 (upd H3 d (.dT [(keyT [], .int n)])) := sb_upd
  have hd4 : (upd H3 d (.dT [(keyT [], V.int n)])) d = some (.dT (rowsT [([], n)])) := upd_same
  generalize upd H3 d (.dT [(keyT [], V.int n)]) = H4 at sb hd4 ⊢
  have S4 : Same H H4 := CP.Same.sb S3 d0 sb
  repeat walk_at "w"
  refine ⟨[([], n)], hd4, by simp, by simp, by decide, by decide, fun o H5 o0 s5 hf => ?_⟩
  exact q o H5 (L2.Same.free S4 o0) (S4.trans s5) (hf.back S4)

theorem ok_as_form (T : Txt K mg) : FnOk P w K mg base CX0 4 T.a_as_form T.fd_as_form ["value"] (sp_as_form T) :=
  T.F_as_form.ok sc_as_form (len_as_form T) fun cdv A outer s H vs Q E hr h => ⟨t_as_form w T, (pss_cons (ps_if (pt_val (pe_call (ok_is_whole T) (hr.mono (by decide)) (by rfl) T.m_is_whole T.F_is_whole.kp (b_is_whole T) .nil pass0 (pa_cons (pv 0) pa_nil))) (pss_one (ps_ret (pe_call (ok_made T) (hr.mono (by decide)) (by rfl) T.m_made T.F_made.kp (b_made T) .nil pass0 (pa_cons (pe_dispT hr.units0 (pe_tup pa_nil) (pv 0)) (pa_cons pe_int pa_nil))))) pss_nil)
      (pss_cons (ps_expr (pe_call (ok_check_form T) (hr.mono (by decide)) (by rfl) T.m_check_form T.F_check_form.kp (b_check_form T) .nil pass0 (pa_cons (pv 0) pa_nil)))
      (pss_one (ps_ret (pv 0))))), rd_as_form T vs H Q E h⟩
end
end CP

namespace CP
open PySem L2
section
variable {P : Program} {w : World} {K : PySem.W.Frag} {mg : Str → Option Value} {base : Heap}
def sp_Form___add (T : Txt K mg) : Sp := fun vs H Q _ => match vs with
  | [.ref o, v] => ∃ f g, FormAt T.a_Form H o f ∧ OpAt T.a_Form H v g ∧ FOk f ∧ FOk g ∧ ∀ p H', H p = none → Same H H' → FormN T.a_Form H H' p (addM f g) → Q (.ref p) H'
  | _ => False
def t_Form___add (w : World) (T : Txt K mg) : TS := tSeq (tAsg (tCall (sp_as_form T) [] E0 (tCons (tVar 1) (tNil))) (gName 1)) (tSeq (tAsg (tDNewT) (gName 2)) (tSeq (tLock (tFor (iItemsT (tFld K (tVar 0) "rows")) (gTup K 2 (gCons (gName 3) (gCons (gName 4) gNil))) (sDPut (tVar 2) (tVar 3) (tOp oMul (tVar 4) (tFld K (tVar 1) "under"))))) (tSeq (tLock (tFor (iItemsT (tFld K (tVar 1) "rows")) (gTup K 2 (gCons (gName 3) (gCons (gName 4) gNil))) (sDPut (tVar 2) (tVar 3) (tOp oAdd (tDGet2 (tVar 2) (tVar 3) (tC (.int 0))) (tOp oMul (tVar 4) (tFld K (tVar 0) "under")))))) (tRet (tCall (sp_made T) [] E0 (tCons (tVar 2) (tCons (tOp oMul (tFld K (tVar 0) "under") (tFld K (tVar 1) "under")) (tNil))))))))
theorem len_Form___add (T : Txt K mg) : ∀ (vs : List V) (H : Hp) (Q : VK) (E : XK), sp_Form___add T vs H Q E → vs.length = (["self", "other"] : List Str).length := by
  intro vs H Q E h
  unfold sp_Form___add at h
  split at h
  all_goals first | rfl | exact h.elim
theorem rd_Form___add (T : Txt K mg) (vs : List V) (H : Hp) (Q : VK) (E : XK) (h : sp_Form___add T vs H Q E) : t_Form___add w T { nx := fun _ H' => Q .non H', rt := Q } (start ["self", "other", "rows", "product", "many"] vs) H := by
  match vs, h with
  | [.ref o, v], h =>
  obtain ⟨f, g, ⟨dx, d, ho', hd'⟩, hv, fo, go, q'⟩ := h
  have sz : sizeLine = 16777216 := rfl
  unfold t_Form___add
  walk_at "st"
  repeat walk_at "w"
  refine as_ask hv fun u H0 s0 hg => ?_
  obtain ⟨dy, e, hu, he⟩ := hg
  have ho := CP.Same.to s0 ho'
  have hd := CP.Same.to s0 hd'
  have q : ∀ p H', H0 p = none → Same H0 H' → FormN T.a_Form H0 H' p (addM f g) → Q (.ref p) H' := fun p H' p0 s hp => q' p H' (L2.Same.free s0 p0) (s0.trans s) (hp.back s0)
  clear ho' hd' q' hv
  repeat walk_at "w"
  refine r_dnewT fun r H1 r0 s1 hr => ?_
  repeat walk_at "w"
  refine r_lockTS (CP.Same.to s1 hd) fun od H2 h2 k2 sm2 => ?_
  repeat walk_at "w"
  refine r_iItemsT ?_
  repeat walk_at "w"
  have rd : r ≠ d := (ne_of_none hd r0).symm
  have re : r ≠ e := (ne_of_none he r0).symm
  have ro : r ≠ o := (ne_of_none ho r0).symm
  have ru : r ≠ u := (ne_of_none hu r0).symm
  have od_ : o ≠ d := fun z => by rw [z, hd] at ho; cases ho
  have ud_ : u ≠ d := fun z => by rw [z, hd] at hu; cases hu
  have oe_ : o ≠ e := fun z => by rw [z, he] at ho; cases ho
  have ue_ : u ≠ e := fun z => by rw [z, he] at hu; cases hu
  have ho2 := k2 _ _ od_ (CP.Same.to s1 ho)
  have hu2 := k2 _ _ ud_ (CP.Same.to s1 hu)
  have hr2 := k2 _ _ rd hr
  have fp := fo.pos
  have gp := go.pos
  have ff := fo.few
  have gf := go.few
  refine r_fget ho2 T.c_Form T.n_Form_rows (by rfl) ?_
  refine ⟨d, od, _, rfl, h2, for_itp (fun i σ H' => SB r H2 H' ∧ H' r = some (.dT (rowsT ((f.1.take i).foldl (timesS g.2) []))) ∧ ∃ x3 x4, σ = [some (.ref o), some (.ref u), some (.ref r), x3, x4]) ⟨fun _ _ _ z => z, hr2, _, _, rfl⟩ (fun i σ H' _ w => w.1 _ _ rd.symm h2) ?_ ?_⟩
  · rintro i k v t q σ H3 H4 hk ⟨b3, hr3, x3, x4, rfl⟩ t0 hq s4 ht
    obtain ⟨a, ha, rfl, rfl⟩ := rowsT_get hk
    have an := fo.num a (List.mem_of_getElem? ha)
    have il := (List.getElem?_eq_some_iff.mp ha).1
    rw [take_succ ha, List.foldl_append]
    have ndt : ((f.1.take i).map (·.1)).Nodup := fo.nd.sublist ((List.take_sublist ..).map _)
    have te := times_eq g.2 (f.1.take i) [] ndt (by simp)
    have tn : (((f.1.take i).foldl (timesS g.2) []).map (·.1)).Nodup := by rw [te, List.nil_append, List.map_map]; exact ndt
    have tl : ((f.1.take i).foldl (timesS g.2) []).length ≤ 1000 := by rw [te, List.nil_append, List.length_map, List.length_take]; omega
    generalize (f.1.take i).foldl (timesS g.2) [] = acc at *
    rw [keyT_V] at hq
    have hu4 := CP.Same.to s4 (b3 _ _ ru.symm hu2)
    have hr4 := CP.Same.to s4 hr3
    have key : H4 q = some (.tup ((keyT a.1).map kV)) := by rw [keyT_V]; exact CP.Same.to s4 hq
    repeat walk_at "w"
    refine r_fget hu4 T.c_Form T.n_Form_under (by rfl) ?_
    repeat walk_at "w"
    refine ⟨r, _, rfl, DPut.t hr4 key (by rw [rowsT_len]; omega), ?_⟩
    rw [putT_val tn]
    exact ⟨fun b w nb hb => by rw [upd_ne nb]; exact CP.Same.to s4 (b3 b w nb hb), by rw [upd_same]; rfl, _, _, rfl⟩
  · rintro σ H3 ⟨b3, hr3, x3, x4, rfl⟩
    rw [rowsT_len, List.take_length] at hr3
    refine ⟨b3 _ _ rd.symm h2, ?_⟩
    have B3 := lock_sb (CP.Same.to s1 hd) k2 b3
    have S3 : Same H0 (upd H3 d (.dT (rowsT f.1))) := CP.Same.sb s1 r0 B3
    have hr4 : (upd H3 d (.dT (rowsT f.1))) r = some (.dT (rowsT (f.1.foldl (timesS g.2) []))) := by rw [upd_ne rd]; exact hr3
    generalize upd H3 d (.dT (rowsT f.1)) = H4 at S3 hr4 B3 ⊢
    clear b3 hr3 h2 k2 sm2 ho2 hu2 hr2
    have te := times_eq g.2 f.1 [] fo.nd (by simp)
    have tn : ((f.1.foldl (timesS g.2) []).map (·.1)).Nodup := by rw [te, List.nil_append, List.map_map]; exact fo.nd
    have tl : (f.1.foldl (timesS g.2) []).length ≤ 1000 := by rw [te, List.nil_append, List.length_map]; omega
    repeat walk_at "w"
    have he4 := CP.Same.to S3 he
    refine r_lockTS he4 fun oe H5 h5 k5 sm5 => ?_
    repeat walk_at "w"
    refine r_iItemsT ?_
    repeat walk_at "w"
    have ho5 := k5 _ _ oe_ (CP.Same.to S3 ho)
    have hu5 := k5 _ _ ue_ (CP.Same.to S3 hu)
    have hr5 := k5 _ _ re hr4
    refine r_fget hu5 T.c_Form T.n_Form_rows (by rfl) ?_
    refine ⟨e, oe, _, rfl, h5, for_itp (fun j σ H' => SB r H5 H' ∧ H' r = some (.dT (rowsT ((g.1.take j).foldl (addS f.2) (f.1.foldl (timesS g.2) [])))) ∧ ∃ x3 x4, σ = [some (.ref o), some (.ref u), some (.ref r), x3, x4]) ⟨fun _ _ _ z => z, hr5, _, _, rfl⟩ (fun i σ H' _ w => w.1 _ _ re.symm h5) ?_ ?_⟩
    · rintro j k v t q σ H6 H7 hk ⟨b6, hr6, x3, x4, rfl⟩ t0 hq s7 ht
      obtain ⟨b, hb, rfl, rfl⟩ := rowsT_get hk
      have bn := go.num b (List.mem_of_getElem? hb)
      have il := (List.getElem?_eq_some_iff.mp hb).1
      rw [take_succ hb, List.foldl_append]
      have un := addS_nd (n := f.2) (rs := g.1.take j) tn
      have ul := addS_len (n := f.2) (rs := g.1.take j) (acc := f.1.foldl (timesS g.2) [])
      have ul2 : (g.1.take j).length ≤ 1000 := by rw [List.length_take]; omega
      generalize (g.1.take j).foldl (addS f.2) (f.1.foldl (timesS g.2) []) = acc at *
      rw [keyT_V] at hq
      have ho7 := CP.Same.to s7 (b6 _ _ ro.symm ho5)
      have hr7 := CP.Same.to s7 hr6
      have key : H7 q = some (.tup ((keyT b.1).map kV)) := by rw [keyT_V]; exact CP.Same.to s7 hq
      repeat walk_at "w"
      refine ⟨r, rfl, .inr ⟨_, .inl hr7⟩, ?_⟩
      repeat walk_at "w"
      refine ⟨_, DGet.t hr7 key, ?_⟩
      rw [getT_val]
      repeat walk_at "w"
      refine r_fget ho7 T.c_Form T.n_Form_under (by rfl) ?_
      repeat walk_at "w"
      refine ⟨r, _, rfl, DPut.t hr7 key (by rw [rowsT_len]; omega), ?_⟩
      rw [putT_val un]
      exact ⟨fun c w nb hb => by rw [upd_ne nb]; exact CP.Same.to s7 (b6 c w nb hb), by rw [upd_same]; rfl, _, _, rfl⟩
    · rintro σ H6 ⟨b6, hr6, x3, x4, rfl⟩
      rw [rowsT_len, List.take_length] at hr6
      refine ⟨b6 _ _ re.symm h5, ?_⟩
      have B6 := lock_sb he4 k5 b6
      have S6 : Same H0 (upd H6 e (.dT (rowsT g.1))) := CP.Same.sb s1 r0 (SB.trans' B3 B6)
      have hr7 : (upd H6 e (.dT (rowsT g.1))) r = some (.dT (rowsT (addR f g))) := by rw [upd_ne re]; exact hr6
      generalize upd H6 e (.dT (rowsT g.1)) = H7 at S6 hr7 ⊢
      repeat walk_at "w"
      refine r_fget (CP.Same.to S6 ho) T.c_Form T.n_Form_under (by rfl) ?_
      repeat walk_at "w"
      refine r_fget (CP.Same.to S6 hu) T.c_Form T.n_Form_under (by rfl) ?_
      have pm := pos_mul fo.pos go.pos
      refine r_I (mul_ok (by omega)) ?_
      repeat walk_at "w"
      have un := addS_nd (n := f.2) (rs := g.1) tn
      have ul := addS_len (n := f.2) (rs := g.1) (acc := f.1.foldl (timesS g.2) [])
      refine ⟨addR f g, hr7, un, by show (g.1.foldl (addS f.2) (f.1.foldl (timesS g.2) [])).length ≤ 1000000; omega, pm.1, pm.2, fun p H8 p0 s8 hf => ?_⟩
      exact q p H8 (L2.Same.free S6 p0) (S6.trans s8) (hf.back S6)

theorem ok_Form___add (T : Txt K mg) : FnOk P w K mg base CX0 5 T.a_Form___add T.fd_Form___add ["self", "other"] (sp_Form___add T) :=
  T.F_Form___add.ok sc_Form___add (len_Form___add T) fun cdv A outer s H vs Q E hr h => ⟨t_Form___add w T, (pss_cons (ps_set (i := 1) sc_Form___add.nd rfl (Or.inl rfl) (pe_call (ok_as_form T) (hr.mono (by decide)) (by rfl) T.m_as_form T.F_as_form.kp (b_as_form T) .nil pass0 (pa_cons (pv 1) pa_nil)))
      (pss_cons (ps_set (i := 2) sc_Form___add.nd rfl (Or.inl rfl) pe_dnewT)
      (pss_cons (ps_lock (ps_for PassesOwn.never rfl (pi_itemsT (pe_fld (pv 0) rfl)) (pg_tup rfl (pgs_cons (pg_name (i := 3) sc_Form___add.nd rfl (Or.inl rfl)) (pgs_cons (pg_name (i := 4) sc_Form___add.nd rfl (Or.inl rfl)) pgs_nil))) (pss_one (ps_dput (hu_of hr) (pv 2) (pv 3) (pe_op op_mulW (pv 4) (pe_fld (pv 1) rfl)) rfl))))
      (pss_cons (ps_lock (ps_for PassesOwn.never rfl (pi_itemsT (pe_fld (pv 1) rfl)) (pg_tup rfl (pgs_cons (pg_name (i := 3) sc_Form___add.nd rfl (Or.inl rfl)) (pgs_cons (pg_name (i := 4) sc_Form___add.nd rfl (Or.inl rfl)) pgs_nil))) (pss_one (ps_dput (hu_of hr) (pv 2) (pv 3) (pe_op op_add (pe_dget2 (hu_of hr) (pv 2) (pv 3) pe_int ⟨by rfl, by rfl, by rfl, by rfl⟩) (pe_op op_mulW (pv 4) (pe_fld (pv 0) rfl))) rfl))))
      (pss_one (ps_ret (pe_call (ok_made T) (hr.mono (by decide)) (by rfl) T.m_made T.F_made.kp (b_made T) .nil pass0 (pa_cons (pv 2) (pa_cons (pe_op op_mulW (pe_fld (pv 0) rfl) (pe_fld (pv 1) rfl)) pa_nil))))))))), rd_Form___add T vs H Q E h⟩
end
end CP

namespace CP
open PySem L2
section
variable {P : Program} {w : World} {K : PySem.W.Frag} {mg : Str → Option Value} {base : Heap}
theorem neg_eq (rs : List Tm) : (rs.filterMap fun r => (some (0 - r.2)).map fun n => (r.1, n)) = rs.map fun r => (r.1, 0 - r.2) := by
  induction rs with
  | nil => rfl
  | cons r rs ih => rw [List.filterMap_cons, List.map_cons, ← ih]; rfl
def sp_Form___neg (T : Txt K mg) : Sp := fun vs H Q _ => match vs with
  | [.ref o] => ∃ f, FormAt T.a_Form H o f ∧ FOk f ∧ ∀ p H', H p = none → Same H H' → FormN T.a_Form H H' p (negM f) → Q (.ref p) H'
  | _ => False
def t_Form___neg (w : World) (T : Txt K mg) : TS := tRet (tMake T.a_Form (sp_Form___init T) [] E0 (tCons (tLockE (tDg (.dT []) (iItemsT (tFld K (tVar 0) "rows")) (gTup K 2 (gCons (gName 1) (gCons (gName 2) gNil))) (tYes) (tVar 1) (tOp oSub (tC (.int 0)) (tVar 2)) [1, 2])) (tCons (tFld K (tVar 0) "under") (tNil))))
theorem len_Form___neg (T : Txt K mg) : ∀ (vs : List V) (H : Hp) (Q : VK) (E : XK), sp_Form___neg T vs H Q E → vs.length = (["self"] : List Str).length := by
  intro vs H Q E h
  unfold sp_Form___neg at h
  split at h
  all_goals first | rfl | exact h.elim
theorem rd_Form___neg (T : Txt K mg) (vs : List V) (H : Hp) (Q : VK) (E : XK) (h : sp_Form___neg T vs H Q E) : t_Form___neg w T { nx := fun _ H' => Q .non H', rt := Q } (start ["self", "product", "many"] vs) H := by
  match vs, h with
  | [.ref o], h =>
  obtain ⟨f, ⟨dx, d, ho, hd⟩, fo, q⟩ := h
  have sz : sizeLine = 16777216 := rfl
  unfold t_Form___neg
  walk_at "st"
  repeat walk_at "w"
  refine r_lockT hd fun od H7 h7 k7 sm7 => ?_
  refine r_dg ?_
  refine r_iItemsT ?_
  repeat walk_at "w"
  have od_ : o ≠ d := fun z => by rw [z, hd] at ho; cases ho
  refine r_fget (k7 _ _ od_ ho) T.c_Form T.n_Form_rows (by rfl) ?_
  refine ⟨d, od, _, rfl, h7, fun D2 D20 => dg_itp (f.1.map fun r => (some (0 - r.2)).map V.int) (rowsT_nd fo.nd) D20 h7 (by rw [rowsT_len, List.length_map]) (by rw [rowsT_len]; have := fo.few; omega) (fun i k v w t q H8 H9 N hk hw s8 t0 hq s9 ht no yes => ?_) fun H8 s8 hD2 => ?_⟩
  · obtain ⟨r, hr, rfl, rfl⟩ := rowsT_get hk
    have hw : w = (some (0 - r.2)).map V.int := by
      rw [List.getElem?_map, hr] at hw
      exact (Option.some.inj hw).symm
    have rn := fo.num r (List.mem_of_getElem? hr)
    repeat walk_at "w"
    refine ⟨rfl, r_yes (if_t ?_)⟩
    repeat walk_at "w"
    exact yes _ hw H9 (Same.refl _)
  rw [acc_rows, neg_eq] at hD2
  refine ⟨CP.Same.to s8 h7, ?_⟩
  have D2D : D2 ≠ d := fun e => by rw [e, h7] at D20; cases D20
  have D2H : H D2 = none := by
    cases e : H D2 with
    | none => rfl
    | some w => rw [k7 _ _ D2D e] at D20; cases D20
  have S8 := sm7 H8 s8
  replace hD2 : (upd H8 d (.dT (rowsT f.1))) D2 = some (.dT (rowsT (negM f).1)) := by rw [upd_ne D2D]; exact hD2
  generalize upd H8 d (.dT (rowsT f.1)) = H9 at S8 hD2 ⊢
  repeat walk_at "w"
  refine r_fget (CP.Same.to S8 ho) T.c_Form T.n_Form_under (by rfl) ?_
  refine form_new T fun o dx H10 o0 s10 ho => ?_
  repeat walk_at "w"
  exact q o H10 (L2.Same.free S8 o0) (S8.trans s10) ⟨dx, D2, ho, CP.Same.to s10 hD2, D2H⟩

theorem ok_Form___neg (T : Txt K mg) : FnOk P w K mg base CX0 3 T.a_Form___neg T.fd_Form___neg ["self"] (sp_Form___neg T) :=
  T.F_Form___neg.ok sc_Form___neg (len_Form___neg T) fun cdv A outer s H vs Q E hr h => ⟨t_Form___neg w T, (pss_one (ps_ret (pe_make T.k_Form (ok_Form___init T) (hr.mono (by decide)) (by rfl) T.m_Form (b_Form___init T) .nil pass0 (pa_cons (pe_lock (pe_dg (o := .dT []) (own := [("product", 1), ("many", 2)]) (g := (gTup K 2 (gCons (gName 1) (gCons (gName 2) gNil)))) (tt := tYes) (tk := tVar 1) (tv := tOp oSub (tC (.int 0)) (tVar 2)) .t hr.units0 rfl sc_Form___neg.nd (pi_itemsT (pe_fld (pv 0) rfl)) (blkOk_by (own := [("product", 1), ("many", 2)]) (N := ["self", "product", "many"]) (sc := defScope s_Form___neg) (by decide +kernel)) (fun _ _ _ _ _ => (pg_tup rfl (pgs_cons (pg_name (i := 1) sc_Form___neg.nd rfl (Or.inl rfl)) (pgs_cons (pg_name (i := 2) sc_Form___neg.nd rfl (Or.inl rfl)) pgs_nil)))) (fun _ _ _ _ _ => pts_nil) (fun _ _ _ _ _ => (pv 1)) (fun _ _ _ _ _ => (pe_op op_sub pe_int (pv 2))))) (pa_cons (pe_fld (pv 0) rfl) pa_nil))))), rd_Form___neg T vs H Q E h⟩
end
end CP

namespace CP
open PySem L2
section
variable {P : Program} {w : World} {K : PySem.W.Frag} {mg : Str → Option Value} {base : Heap}
def sp_Form___sub (T : Txt K mg) : Sp := fun vs H Q _ => match vs with
  | [.ref o, v] => ∃ f g, FormAt T.a_Form H o f ∧ FOk f ∧ FOk g ∧ OpAt T.a_Form H v g ∧ ∀ p H', H p = none → Same H H' → FormN T.a_Form H H' p (addM f (negM g)) → Q (.ref p) H'
  | _ => False
theorem FOk.neg {f : Fm} (h : FOk f) : FOk (negM f) := by
  have ek : (f.1.map fun r => (r.1, 0 - r.2)).map (·.1) = f.1.map (·.1) := by rw [List.map_map]; rfl
  refine ⟨by show ((f.1.map fun r => (r.1, 0 - r.2)).map (·.1)).Nodup; rw [ek]; exact h.nd, by show (f.1.map fun r => (r.1, 0 - r.2)).length ≤ 1000; rw [List.length_map]; exact h.few, fun r hr => ?_, fun r hr => ?_, h.pos⟩
  · obtain ⟨s, hs, rfl⟩ := List.mem_map.mp hr
    exact h.lets s hs
  · obtain ⟨s, hs, rfl⟩ := List.mem_map.mp hr
    have := h.num s hs
    show (0 - s.2).natAbs < 2 ^ 200
    omega
/-- what stands behind as_form: the other form, old or new -/
theorem sub_rest {T : Txt K mg} {H H1 : Hp} {o u : Addr} {f g : Fm} {Q : VK} (s : Same H H1) (hf : FormAt T.a_Form H o f) (hg : FormAt T.a_Form H1 u g) (fo : FOk f) (go : FOk g) (q : ∀ p H', H p = none → Same H H' → FormN T.a_Form H H' p (addM f (negM g)) → Q (.ref p) H') :
    rNegO T.a_Form (sp_Form___neg T) E0 (.ref u) H1 fun y H2 => rBinO T.a_Form (sp_Form___add T) E0 (.ref o) y H2 Q := by
  obtain ⟨dy, e, hu, he⟩ := id hg
  refine ⟨u, dy, _, rfl, hu, g, hg, go, fun p H2 p0 s2 hp => ?_⟩
  have S2 := s.trans s2
  obtain ⟨dx, d, ho, hd⟩ := hf.mono S2
  obtain ⟨dz, d2, hp1, hp2, _⟩ := hp
  refine ⟨o, p, dx, dz, _, _, rfl, rfl, ho, hp1, f, negM g, ⟨dx, d, ho, hd⟩, .inl ⟨p, rfl, dz, d2, hp1, hp2⟩, fo, go.neg, fun r H3 r0 s3 hr => ⟨r, rfl, ?_⟩⟩
  exact q r H3 (L2.Same.free S2 r0) (S2.trans s3) (hr.back S2)
def t_Form___sub (w : World) (T : Txt K mg) : TS := tRet (tOp (rBinO T.a_Form (sp_Form___add T) E0) (tVar 0) (tUn (rNegO T.a_Form (sp_Form___neg T) E0) (tCall (sp_as_form T) [] E0 (tCons (tVar 1) (tNil)))))
theorem len_Form___sub (T : Txt K mg) : ∀ (vs : List V) (H : Hp) (Q : VK) (E : XK), sp_Form___sub T vs H Q E → vs.length = (["self", "other"] : List Str).length := by
  intro vs H Q E h
  unfold sp_Form___sub at h
  split at h
  all_goals first | rfl | exact h.elim
theorem rd_Form___sub (T : Txt K mg) (vs : List V) (H : Hp) (Q : VK) (E : XK) (h : sp_Form___sub T vs H Q E) : t_Form___sub w T { nx := fun _ H' => Q .non H', rt := Q } (start ["self", "other"] vs) H := by
  match vs, h with
  | [.ref o, v], h =>
  obtain ⟨f, g, hf, fo, go, hv, q⟩ := h
  have sz : sizeLine = 16777216 := rfl
  unfold t_Form___sub
  walk_at "st"
  repeat walk_at "w"
  refine r_un ?_
  repeat walk_at "w"
  rcases hv with ⟨u, rfl, hg⟩ | ⟨n, rfl, rfl⟩
  · obtain ⟨dy, e, hu, he⟩ := id hg
    refine ⟨dy, _, hu, ?_⟩
    exact sub_rest (Same.refl _) hf hg fo go q
  · refine fun u H1 u0 s1 hg => ?_
    exact sub_rest s1 hf hg.at fo go q

theorem ok_Form___sub (T : Txt K mg) : FnOk P w K mg base CX0 7 T.a_Form___sub T.fd_Form___sub ["self", "other"] (sp_Form___sub T) :=
  T.F_Form___sub.ok sc_Form___sub (len_Form___sub T) fun cdv A outer s H vs Q E hr h => ⟨t_Form___sub w T, (pss_one (ps_ret (pe_op (op_binO (op := .Add) rfl T.S_Form T.M_Form___add (ok_Form___add T) (hr.mono (by decide)) (b_Form___add T) pass0) (pv 0) (pe_un (un_negO T.M_Form___neg (ok_Form___neg T) (hr.mono (by decide)) (b_Form___neg T) pass0) (pe_call (ok_as_form T) (hr.mono (by decide)) (by rfl) T.m_as_form T.F_as_form.kp (b_as_form T) .nil pass0 (pa_cons (pv 1) pa_nil)))))), rd_Form___sub T vs H Q E h⟩
end
end CP

namespace CP
open PySem L2
section
variable {P : Program} {w : World} {K : PySem.W.Frag} {mg : Str → Option Value} {base : Heap}
def sp_Form___mul (T : Txt K mg) : Sp := fun vs H Q _ => match vs with
  | [.ref o, v] => ∃ f g dx d, H o = some (.ins T.a_Form dx [("rows", .ref d), ("under", .int f.2)]) ∧ H d = some (.dT (rowsT f.1)) ∧ OpBy T.a_Form H d v g ∧ FOk f ∧ FOk g ∧
      ∀ p H', H p = none → Same H H' → FormN T.a_Form H H' p (mulM f g) → Q (.ref p) H'
  | _ => False
def t_Form___mul (w : World) (T : Txt K mg) : TS := tSeq (tAsg (tCall (sp_as_form T) [] E0 (tCons (tVar 1) (tNil))) (gName 1)) (tSeq (tAsg (tDNewT) (gName 2)) (tSeq (tLock (tFor (iItemsT (tFld K (tVar 0) "rows")) (gTup K 2 (gCons (gName 3) (gCons (gName 4) gNil))) (tLock (tFor (iItemsT (tFld K (tVar 1) "rows")) (gTup K 2 (gCons (gName 5) (gCons (gName 6) gNil))) (tSeq (tAsg (tCB ((oTuple K)) (tCons (tCB (rSortedTS K) (tCons (tOp (rCatA K) (tVar 3) (tVar 5)) (tNil))) (tNil))) (gName 7)) (sDPut (tVar 2) (tVar 7) (tOp oAdd (tDGet2 (tVar 2) (tVar 7) (tC (.int 0))) (tOp oMul (tVar 4) (tVar 6))))))))) (tRet (tCall (sp_made T) [] E0 (tCons (tVar 2) (tCons (tOp oMul (tFld K (tVar 0) "under") (tFld K (tVar 1) "under")) (tNil)))))))
theorem len_Form___mul (T : Txt K mg) : ∀ (vs : List V) (H : Hp) (Q : VK) (E : XK), sp_Form___mul T vs H Q E → vs.length = (["self", "other"] : List Str).length := by
  intro vs H Q E h
  unfold sp_Form___mul at h
  split at h
  all_goals first | rfl | exact h.elim
theorem rd_Form___mul (T : Txt K mg) (vs : List V) (H : Hp) (Q : VK) (E : XK) (h : sp_Form___mul T vs H Q E) : t_Form___mul w T { nx := fun _ H' => Q .non H', rt := Q } (start ["self", "other", "rows", "one", "many", "two", "more", "product"] vs) H := by
  match vs, h with
  | [.ref o, v], h =>
  obtain ⟨f, g, dx, d, ho', hd', hv, fo, go, q'⟩ := h
  have sz : sizeLine = 16777216 := rfl
  unfold t_Form___mul
  walk_at "st"
  repeat walk_at "w"
  refine as_by hd' hv fun u H0 dy e s0 hu he de => ?_
  have ho := CP.Same.to s0 ho'
  have hd := CP.Same.to s0 hd'
  have q : ∀ p H', H0 p = none → Same H0 H' → FormN T.a_Form H0 H' p (mulM f g) → Q (.ref p) H' := fun p H' p0 s hp => q' p H' (L2.Same.free s0 p0) (s0.trans s) (hp.back s0)
  clear ho' hd' q' hv
  repeat walk_at "w"
  refine r_dnewT fun r H1 r0 s1 hr => ?_
  repeat walk_at "w"
  refine r_lockTS (CP.Same.to s1 hd) fun od H2 h2 k2 sm2 => ?_
  repeat walk_at "w"
  refine r_iItemsT ?_
  repeat walk_at "w"
  have rd : r ≠ d := (ne_of_none hd r0).symm
  have re : r ≠ e := (ne_of_none he r0).symm
  have ro : r ≠ o := (ne_of_none ho r0).symm
  have ru : r ≠ u := (ne_of_none hu r0).symm
  have od_ : o ≠ d := fun z => by rw [z, hd] at ho; cases ho
  have ud_ : u ≠ d := fun z => by rw [z, hd] at hu; cases hu
  have oe_ : o ≠ e := fun z => by rw [z, he] at ho; cases ho
  have ue_ : u ≠ e := fun z => by rw [z, he] at hu; cases hu
  have ho2 := k2 _ _ od_ (CP.Same.to s1 ho)
  have hu2 := k2 _ _ ud_ (CP.Same.to s1 hu)
  have he2 := k2 _ _ de.symm (CP.Same.to s1 he)
  have hr2 := k2 _ _ rd hr
  refine r_fget ho2 T.c_Form T.n_Form_rows (by rfl) ?_
  refine ⟨d, od, _, rfl, h2, for_itp (fun i σ H' => SB r H2 H' ∧ H' r = some (.dT (rowsT ((f.1.take i).foldl (mulRow g.1) []))) ∧ ∃ x3 x4 x5 x6 x7, σ = [some (.ref o), some (.ref u), some (.ref r), x3, x4, x5, x6, x7]) ⟨fun _ _ _ z => z, hr2, _, _, _, _, _, rfl⟩ (fun i σ H' _ w => w.1 _ _ rd.symm h2) ?_ ?_⟩
  · rintro i k v t q σ H3 H4 hk ⟨b3, hr3, x3, x4, x5, x6, x7, rfl⟩ t0 hq s4 ht
    obtain ⟨a, ha, rfl, rfl⟩ := rowsT_get hk
    have an := fo.num a (List.mem_of_getElem? ha)
    obtain ⟨_, al⟩ := fo.lets a (List.mem_of_getElem? ha)
    have fl := (List.getElem?_eq_some_iff.mp ha).1
    rw [take_succ ha, List.foldl_append]
    obtain ⟨accn, accl⟩ := mulR_ok (gs := g.1) (fs := f.1.take i) (acc := []) (by simp)
    have accl2 : ((f.1.take i).foldl (mulRow g.1) []).length ≤ 1000000 := by
      have h1 : (f.1.take i).length * g.1.length ≤ 1000 * 1000 := Nat.mul_le_mul (by rw [List.length_take]; have := fo.few; omega) go.few
      simp only [List.length_nil] at accl
      omega
    generalize (f.1.take i).foldl (mulRow g.1) [] = acc at *
    repeat walk_at "w"
    have he4 := CP.Same.to s4 (b3 _ _ re.symm he2)
    refine r_lockTS he4 fun oe H5 h5 k5 sm5 => ?_
    repeat walk_at "w"
    refine r_iItemsT ?_
    repeat walk_at "w"
    have hu5 := k5 _ _ ue_ (CP.Same.to s4 (b3 _ _ ru.symm hu2))
    have hr5 := k5 _ _ re (CP.Same.to s4 hr3)
    refine r_fget hu5 T.c_Form T.n_Form_rows (by rfl) ?_
    have qe : q ≠ e := fun z => by rw [z, b3 _ _ re.symm he2] at hq; cases hq
    have qr : q ≠ r := fun z => by rw [z, hr3] at hq; cases hq
    have hq5 := k5 _ _ qe (CP.Same.to s4 hq)
    refine ⟨e, oe, _, rfl, h5, for_itp (fun j σ H' => SB r H5 H' ∧ H' r = some (.dT (rowsT ((g.1.take j).foldl (mulStep a) acc))) ∧ ∃ x5 x6 x7, σ = [some (.ref o), some (.ref u), some (.ref r), some (.ref q), some (.int a.2), x5, x6, x7]) ⟨fun _ _ _ z => z, hr5, _, _, _, rfl⟩ (fun i σ H' _ w => w.1 _ _ re.symm h5) ?_ ?_⟩
    · clear b3 hr3 hk ht s4 sm5 k5
      rintro j k v t2 q2 σ H6 H7 hk2 ⟨b6, hr6, y5, y6, y7, rfl⟩ t20 hq2 s7 ht2
      obtain ⟨b, hb, rfl, rfl⟩ := rowsT_get hk2
      have bn := go.num b (List.mem_of_getElem? hb)
      obtain ⟨_, bl⟩ := go.lets b (List.mem_of_getElem? hb)
      rw [take_succ hb, List.foldl_append]
      rw [keyT_V] at hq2 hq5
      repeat walk_at "w"
      have hq7 := CP.Same.to s7 (b6 _ _ qr hq5)
      refine r_catT hq7 (CP.Same.to s7 hq2) (by rw [strL_len, strL_len]; omega) fun p1 H8 s8 hp1 => ?_
      rw [← strL_app] at hp1
      repeat walk_at "w"
      refine r_srtTS hp1 (by rw [List.length_append]; omega) fun p2 H9 p20 s9 hp2 => ?_
      repeat walk_at "w"
      refine r_tupL (.of hp2) fun p3 H10 p30 s10 hp3 => ?_
      repeat walk_at "w"
      have s710 := s7.trans (s8.trans (s9.trans s10))
      have hr10 := CP.Same.to s710 hr6
      have key : H10 p3 = some (.tup ((keyT (srt (a.1 ++ b.1))).map kV)) := by rw [keyT_V]; exact hp3
      refine ⟨r, rfl, .inr ⟨_, .inl hr10⟩, ?_⟩
      repeat walk_at "w"
      refine ⟨_, DGet.t hr10 key, ?_⟩
      rw [getT_val]
      repeat walk_at "w"
      have glen := (List.getElem?_eq_some_iff.mp hb).1
      have tl : ((g.1.take j).foldl (mulStep a) acc).length ≤ acc.length + (g.1.take j).length := mulRow_len (gs := g.1.take j) (a := a) (acc := acc)
      have tl2 : (g.1.take j).length ≤ 1000 := by rw [List.length_take]; have := go.few; omega
      have tn : (((g.1.take j).foldl (mulStep a) acc).map (·.1)).Nodup := mulRow_nd (gs := g.1.take j) accn
      refine ⟨r, _, rfl, DPut.t hr10 key (by rw [rowsT_len]; omega), ?_⟩
      rw [putT_val tn]
      refine ⟨fun b w nb hb => by rw [upd_ne nb]; exact s710 _ _ (b6 b w nb hb), by rw [upd_same]; rfl, _, _, _, rfl⟩
    · rintro σ H6 ⟨b6, hr6, y5, y6, y7, rfl⟩
      rw [rowsT_len, List.take_length] at hr6
      refine ⟨b6 _ _ re.symm h5, fun b w nb hb => lock_sb he4 k5 b6 b w nb (CP.Same.to s4 (b3 b w nb hb)), ?_, _, _, _, _, _, rfl⟩
      rw [upd_ne re]
      exact hr6
  · rintro σ H3 ⟨b3, hr3, x3, x4, x5, x6, x7, rfl⟩
    rw [rowsT_len, List.take_length] at hr3
    refine ⟨b3 _ _ rd.symm h2, ?_⟩
    have B3 := lock_sb (CP.Same.to s1 hd) k2 b3
    have S3 : Same H0 (upd H3 d (.dT (rowsT f.1))) := CP.Same.sb s1 r0 B3
    have hr4 : (upd H3 d (.dT (rowsT f.1))) r = some (.dT (rowsT (mulR f.1 g.1))) := by rw [upd_ne rd]; exact hr3
    generalize upd H3 d (.dT (rowsT f.1)) = H4 at S3 hr4 ⊢
    repeat walk_at "w"
    refine r_fget (CP.Same.to S3 ho) T.c_Form T.n_Form_under (by rfl) ?_
    repeat walk_at "w"
    refine r_fget (CP.Same.to S3 hu) T.c_Form T.n_Form_under (by rfl) ?_
    have pm := pos_mul fo.pos go.pos
    have p1 := fo.pos
    have p2 := go.pos
    refine r_I (mul_ok (by omega)) ?_
    repeat walk_at "w"
    obtain ⟨nd, len⟩ := mulR_ok (gs := g.1) (fs := f.1) (acc := []) (by simp)
    have h1 : f.1.length * g.1.length ≤ 1000 * 1000 := Nat.mul_le_mul fo.few go.few
    simp only [List.length_nil] at len
    have few : (mulR f.1 g.1).length ≤ 1000000 := by
      show (f.1.foldl (mulRow g.1) []).length ≤ 1000000
      omega
    refine ⟨mulR f.1 g.1, hr4, nd, few, pm.1, pm.2, fun p H5 p0 s5 hf => ?_⟩
    exact q p H5 (L2.Same.free S3 p0) (S3.trans s5) (hf.back S3)

theorem ok_Form___mul (T : Txt K mg) : FnOk P w K mg base CX0 5 T.a_Form___mul T.fd_Form___mul ["self", "other"] (sp_Form___mul T) :=
  T.F_Form___mul.ok sc_Form___mul (len_Form___mul T) fun cdv A outer s H vs Q E hr h => ⟨t_Form___mul w T, (pss_cons (ps_set (i := 1) sc_Form___mul.nd rfl (Or.inl rfl) (pe_call (ok_as_form T) (hr.mono (by decide)) (by rfl) T.m_as_form T.F_as_form.kp (b_as_form T) .nil pass0 (pa_cons (pv 1) pa_nil)))
      (pss_cons (ps_set (i := 2) sc_Form___mul.nd rfl (Or.inl rfl) pe_dnewT)
      (pss_cons (ps_lock (ps_for PassesOwn.never rfl (pi_itemsT (pe_fld (pv 0) rfl)) (pg_tup rfl (pgs_cons (pg_name (i := 3) sc_Form___mul.nd rfl (Or.inl rfl)) (pgs_cons (pg_name (i := 4) sc_Form___mul.nd rfl (Or.inl rfl)) pgs_nil))) (pss_one (ps_lock (ps_for PassesOwn.never rfl (pi_itemsT (pe_fld (pv 1) rfl)) (pg_tup rfl (pgs_cons (pg_name (i := 5) sc_Form___mul.nd rfl (Or.inl rfl)) (pgs_cons (pg_name (i := 6) sc_Form___mul.nd rfl (Or.inl rfl)) pgs_nil))) (pss_cons (ps_set (i := 7) sc_Form___mul.nd rfl (Or.inl rfl) (pe_callTy call_tuple_of (by rfl) T.n_tuple (by decide +kernel) (pa_cons (pe_callB cr_sortedTS (by rfl) T.n_sorted (by decide +kernel) (pa_cons (pe_op op_catA (pv 3) (pv 5)) pa_nil)) pa_nil)))
      (pss_one (ps_dput (hu_of hr) (pv 2) (pv 7) (pe_op op_add (pe_dget2 (hu_of hr) (pv 2) (pv 7) pe_int ⟨by rfl, by rfl, by rfl, by rfl⟩) (pe_op op_mulW (pv 4) (pv 6))) rfl))))))))
      (pss_one (ps_ret (pe_call (ok_made T) (hr.mono (by decide)) (by rfl) T.m_made T.F_made.kp (b_made T) .nil pass0 (pa_cons (pv 2) (pa_cons (pe_op op_mulW (pe_fld (pv 0) rfl) (pe_fld (pv 1) rfl)) pa_nil)))))))), rd_Form___mul T vs H Q E h⟩
end
end CP

namespace CP
open PySem L2
section
variable {P : Program} {w : World} {K : PySem.W.Frag} {mg : Str → Option Value} {base : Heap}
def sp_Form_over (T : Txt K mg) : Sp := fun vs H Q _ => match vs with
  | [.ref o, .int n] => ∃ f, FormAt T.a_Form H o f ∧ FOk f ∧ n ≠ 0 ∧ n.natAbs < 2 ^ 190 ∧ ∀ p H', H p = none → Same H H' → FormN T.a_Form H H' p (overM f n) → Q (.ref p) H'
  | _ => False
theorem if_nf' {n : Int} (n0 : n ≠ 0) {X Y : Prop} (q : Y) : if decide (n = 0) = true then X else Y := by
  rw [if_neg (by simpa using n0)]
  exact q
def t_Form_over (w : World) (T : Txt K mg) : TS := tSeq (tIfS (tOr (tNot (tB (tCall (sp_is_whole T) [] E0 (tCons (tVar 1) (tNil))))) (tTest (tOp rEq (tVar 1) (tC (.int 0))))) (tNever) (tNext)) (tSeq (tAsg (tIf (tTest (tOp oGt (tVar 1) (tC (.int 0)))) (tVar 0) (tUn (rNegO T.a_Form (sp_Form___neg T) E0) (tVar 0))) (gName 2)) (tRet (tCall (sp_made T) [] E0 (tCons (tFld K (tVar 2) "rows") (tCons (tOp oMul (tFld K (tVar 0) "under") (tCB oAbs (tCons (tVar 1) (tNil)))) (tNil))))))
theorem len_Form_over (T : Txt K mg) : ∀ (vs : List V) (H : Hp) (Q : VK) (E : XK), sp_Form_over T vs H Q E → vs.length = (["self", "divisor"] : List Str).length := by
  intro vs H Q E h
  unfold sp_Form_over at h
  split at h
  all_goals first | rfl | exact h.elim
theorem rd_Form_over (T : Txt K mg) (vs : List V) (H : Hp) (Q : VK) (E : XK) (h : sp_Form_over T vs H Q E) : t_Form_over w T { nx := fun _ H' => Q .non H', rt := Q } (start ["self", "divisor", "turned"] vs) H := by
  match vs, h with
  | [.ref o, .int n], h =>
  obtain ⟨f, hf, fo, n0, nk, q⟩ := h
  obtain ⟨dx, d, ho, hd⟩ := id hf
  have sz : sizeLine = 16777216 := rfl
  unfold t_Form_over
  walk_at "st"
  repeat walk_at "w"
  refine ⟨"int", .inl tk_int, ?_⟩
  rw [show ("int" == "int") = true by decide]
  repeat walk_at "w"
  refine if_nf' n0 ?_
  repeat walk_at "w"
  have fp := fo.pos
  have fin : ∀ {H1 : Hp} {o1 : Addr}, Same H H1 → FormAt T.a_Form H1 o1 (if 0 < n then f else negM f) → ∃ dx1 d1, H1 o1 = some (.ins T.a_Form dx1 [("rows", .ref d1), ("under", .int (if 0 < n then f else negM f).2)]) ∧ H1 o = some (.ins T.a_Form dx [("rows", .ref d), ("under", .int f.2)]) ∧ sp_made T ([.ref d1, .int (f.2 * if n < 0 then -n else n)] ++ []) H1 Q E0 := fun {H1 o1} s1 h1 => by
    have go : FOk (if 0 < n then f else negM f) := by
      split
      · exact fo
      · refine ⟨?_, ?_, fun r hr => ?_, fun r hr => ?_, fo.pos⟩
        · show ((f.1.map fun r => (r.1, 0 - r.2)).map (·.1)).Nodup
          rw [List.map_map]
          exact fo.nd
        · show (f.1.map fun r => (r.1, 0 - r.2)).length ≤ 1000
          rw [List.length_map]; exact fo.few
        · obtain ⟨s, hs, rfl⟩ := List.mem_map.mp hr
          exact fo.lets s hs
        · obtain ⟨s, hs, rfl⟩ := List.mem_map.mp hr
          have := fo.num s hs
          show (0 - s.2).natAbs < 2 ^ 200
          omega
    obtain ⟨dx1, d1, ho1, hd1⟩ := h1
    have ea : (if n < 0 then -n else n) = (n.natAbs : Int) := by split <;> omega
    rw [ea]
    have gf := go.few
    refine ⟨dx1, d1, ho1, CP.Same.to s1 ho, _, hd1, go.nd, by omega, Int.mul_pos fp.1 (by omega), ?_, fun p H2 p0 s2 hp => ?_⟩
    · have c : f.2 * (n.natAbs : Int) < 2 ^ 200 * 2 ^ 190 := Int.mul_lt_mul fp.2 (by omega) (by omega) (by decide)
      have e : (2 : Int) ^ 200 * 2 ^ 190 < 2 ^ 400 := by decide +kernel
      omega
    · exact q p H2 (L2.Same.free s1 p0) (s1.trans s2) (hp.back s1)
  have nw : (if n < 0 then -n else n) = (n.natAbs : Int) := by split <;> omega
  refine if_d (fun k => ?_) fun k => ?_
  · obtain ⟨dx1, d1, ho1, ho2, fin⟩ := fin (o1 := o) (Same.refl _) (by rw [if_pos k]; exact hf)
    repeat walk_at "w"
    refine r_fget ho1 T.c_Form T.n_Form_rows (by rfl) ?_
    repeat walk_at "w"
    refine r_fget ho2 T.c_Form T.n_Form_under (by rfl) ?_
    repeat walk_at "w"
    exact fin
  · repeat walk_at "w"
    refine r_un ?_
    repeat walk_at "w"
    refine ⟨o, dx, _, rfl, ho, f, hf, fo, fun p H2 p0 s2 hp => ?_⟩
    obtain ⟨dx1, d1, ho1, ho2, fin⟩ := fin (o1 := p) s2 (by rw [if_neg k]; exact hp.at)
    repeat walk_at "w"
    refine r_fget ho1 T.c_Form T.n_Form_rows (by rfl) ?_
    repeat walk_at "w"
    refine r_fget ho2 T.c_Form T.n_Form_under (by rfl) ?_
    repeat walk_at "w"
    exact fin

theorem ok_Form_over (T : Txt K mg) : FnOk P w K mg base CX0 5 T.a_Form_over T.fd_Form_over ["self", "divisor"] (sp_Form_over T) :=
  T.F_Form_over.ok sc_Form_over (len_Form_over T) fun cdv A outer s H vs Q E hr h => ⟨t_Form_over w T, (pss_cons (ps_if (PW.pt (pw_or (pt_not (pt_val (pe_call (ok_is_whole T) (hr.mono (by decide)) (by rfl) T.m_is_whole T.F_is_whole.kp (b_is_whole T) .nil pass0 (pa_cons (pv 1) pa_nil)))) (pw_or1 (pt_cmpR op_eq (pv 1) pe_int (nomark _))))) (pss_one ps_never) pss_nil)
      (pss_cons (ps_set (i := 2) sc_Form_over.nd rfl (Or.inl rfl) (pe_ifExp (pt_cmpR op_gt (pv 1) pe_int (nomark _)) (pv 0) (pe_un (un_negO T.M_Form___neg (ok_Form___neg T) (hr.mono (by decide)) (b_Form___neg T) pass0) (pv 0))))
      (pss_one (ps_ret (pe_call (ok_made T) (hr.mono (by decide)) (by rfl) T.m_made T.F_made.kp (b_made T) .nil pass0 (pa_cons (pe_fld (pv 2) rfl) (pa_cons (pe_op op_mulW (pe_fld (pv 0) rfl) (pe_callB call_absA (by rfl) T.n_abs (by decide +kernel) (pa_cons (pv 1) pa_nil))) pa_nil))))))), rd_Form_over T vs H Q E h⟩
end
end CP

namespace CP
open PySem L2
section
variable {P : Program} {w : World} {K : PySem.W.Frag} {mg : Str → Option Value} {base : Heap}
def sp_Form_letters (T : Txt K mg) : Sp := fun vs H Q _ => match vs with
  | [.ref o] => ∃ f, FormAt T.a_Form H o f ∧ FOk f ∧ (sset (f.1.flatMap fun r => r.1)).length < 64 ∧ ∀ p H', H p = none → Same H H' → H' p = some (.lst (strL (sset (f.1.flatMap fun r => r.1)))) → Q (.ref p) H'
  | _ => False
def t_Form_letters (w : World) (T : Txt K mg) : TS := tRet (tCB oSortD (tCons (tLockE (tDg2 (.dK []) (iKeys (tFld K (tVar 0) "rows")) (gName 1) (tYes) (iTup K (tVar 1)) (gName 2) (tYes) (tVar 2) (tC (.bl true)) [1, 2] [2])) (tNil)))
theorem len_Form_letters (T : Txt K mg) : ∀ (vs : List V) (H : Hp) (Q : VK) (E : XK), sp_Form_letters T vs H Q E → vs.length = (["self"] : List Str).length := by
  intro vs H Q E h
  unfold sp_Form_letters at h
  split at h
  all_goals first | rfl | exact h.elim
theorem rd_Form_letters (T : Txt K mg) (vs : List V) (H : Hp) (Q : VK) (E : XK) (h : sp_Form_letters T vs H Q E) : t_Form_letters w T { nx := fun _ H' => Q .non H', rt := Q } (start ["self", "product", "name"] vs) H := by
  match vs, h with
  | [.ref o], h =>
  obtain ⟨f, ⟨dx, d, ho, hd⟩, fo, few, q⟩ := h
  have sz : sizeLine = 16777216 := rfl
  unfold t_Form_letters
  walk_at "st"
  repeat walk_at "w"
  refine r_lockT hd fun od H1 h1 k1 sm => ?_
  repeat walk_at "w"
  refine r_dg2 ?_
  walk_at "w"
  walk_at "w"
  walk_at "w"
  have od_ : o ≠ d := fun z => by rw [z, hd] at ho; cases ho
  refine r_fget (k1 _ _ od_ ho) T.c_Form T.n_Form_rows (by rfl) ?_
  refine ⟨d, od, rfl, .inr ⟨_, h1, fun D D0 => ⟨fun i m H2 => m = f.1.length - i ∧ i ≤ f.1.length ∧ Same H1 H2 ∧ H2 D = some (.dK (trueK (namesM (f.1.take i)))), ⟨_, rfl, Nat.zero_le _, same_new D0, upd_same⟩, ?_⟩⟩⟩
  rintro i m H2 ⟨rfl, hi, s2, hD⟩
  have h2 := CP.Same.to s2 h1
  rcases Nat.lt_or_ge i f.1.length with lt | ge
  · refine .inr ⟨⟨h2, by rw [rowsT_len]; exact lt⟩, fun H3 => Same H1 H3 ∧ H3 D = some (.dK (trueK (namesM (f.1.take (i + 1))))), fun H3 z => ⟨f.1.length - (i + 1), by omega, rfl, lt, z⟩, fun x H3 y => ?_⟩
    obtain ⟨rfl, k, v, q1, hk, rfl, hq1⟩ := y
    obtain ⟨r, hr, rfl, rfl⟩ := rowsT_get hk
    rw [keyT_V] at hq1
    have e1 : namesM (f.1.take (i + 1)) = r.1.foldl addN (namesM (f.1.take i)) := by
      unfold namesM
      rw [take_succ hr, List.foldl_append]
      rfl
    obtain ⟨an, _⟩ := names_ok (f.1.take i)
    obtain ⟨_, rl⟩ := fo.lets r (List.mem_of_getElem? hr)
    have al : (namesM (f.1.take i)).length ≤ 1000000 := by
      have := names_len (rs := f.1.take i) fun u hu => (fo.lets u (List.mem_of_mem_take hu)).2
      have := fo.few
      rw [List.length_take] at *
      omega
    repeat walk_at "w"
    refine ⟨rfl, r_yes (if_t ?_)⟩
    repeat walk_at "w"
    have qD : q1 ≠ D := fun z => by rw [z, hD] at hq1; cases hq1
    refine ⟨q1, rfl, ⟨_, .of hq1⟩, fun j m2 H4 => m2 = r.1.length - j ∧ j ≤ r.1.length ∧ SB D H3 H4 ∧ H4 D = some (.dK (trueK ((r.1.take j).foldl addN (namesM (f.1.take i))))), ⟨_, rfl, Nat.zero_le _, fun _ _ _ z => z, hD⟩, ?_⟩
    rintro j m2 H4 ⟨rfl, hj, b4, hD4⟩
    have hq4 := b4 _ _ qD hq1
    rcases Nat.lt_or_ge j r.1.length with jl | jg
    · obtain ⟨w, hw⟩ : ∃ w, r.1[j]? = some w := ⟨_, List.getElem?_eq_getElem jl⟩
      have hwL : (strL r.1)[j]? = some (.str w) := by unfold strL; rw [List.getElem?_map, hw]; rfl
      refine .inr ⟨⟨strL r.1, .str w, .of hq4, hwL⟩, fun H5 => SB D H3 H5 ∧ H5 D = some (.dK (trueK ((r.1.take (j + 1)).foldl addN (namesM (f.1.take i))))), fun H5 z => ⟨r.1.length - (j + 1), by omega, rfl, jl, z⟩, fun x H5 y => ?_⟩
      obtain ⟨rfl, hx⟩ := y
      obtain rfl : x = .str w := Option.some.inj ((hx _ (.of hq4)).symm.trans hwL)
      have l5 := adds_len (m := r.1.take j) (l := namesM (f.1.take i))
      have l6 : (r.1.take j).length ≤ 1000 := by rw [List.length_take]; omega
      repeat walk_at "w"
      refine ⟨rfl, r_yes (if_t ?_)⟩
      repeat walk_at "w"
      refine ⟨_, DPut.k (k := Sum.inr w) hD4 (by unfold trueK; rw [List.length_map]; omega), ?_⟩
      rw [trueK_put]
      refine ⟨fun b u nb hb => by rw [upd_ne nb]; exact b4 b u nb hb, ?_⟩
      rw [upd_same, take_succ hw, List.foldl_append]
      rfl
    · obtain rfl : j = r.1.length := by omega
      rw [List.take_length] at hD4
      exact .inl ⟨⟨strL r.1, .of hq4, by rw [strL_len]; exact Nat.le_refl _⟩, CP.Same.sb s2 D0 b4, by rw [e1]; exact hD4⟩
  · obtain rfl : i = f.1.length := by omega
    rw [List.take_length] at hD
    refine .inl ⟨⟨h2, by rw [rowsT_len]; exact Nat.le_refl _⟩, h2, ?_⟩
    have dD : D ≠ d := fun e => by rw [e, h1] at D0; cases D0
    have S := sm H2 s2
    replace hD : (upd H2 d (.dT (rowsT f.1))) D = some (.dK (trueK (namesM f.1))) := by rw [upd_ne dD]; exact hD
    generalize upd H2 d (.dT (rowsT f.1)) = H3 at S hD ⊢
    have ln : (namesM f.1).length < 64 := by
      rw [← srt_len, names_srt]
      exact few
    repeat walk_at "w"
    refine ⟨D, trueK (namesM f.1), namesM f.1, rfl, .inl hD, by unfold trueK; rw [List.map_map]; rfl, ln, fun ys p hp so p0 => ?_⟩
    have e : ys = sset (f.1.flatMap fun r => r.1) := (srt_of hp so).trans (names_srt _)
    have s4 := same_new (o := .lst (ys.map V.str)) p0
    exact q p _ (L2.Same.free S p0) (S.trans s4) (by rw [upd_same, e]; rfl)

theorem ok_Form_letters (T : Txt K mg) : FnOk P w K mg base CX0 1 T.a_Form_letters T.fd_Form_letters ["self"] (sp_Form_letters T) :=
  T.F_Form_letters.ok sc_Form_letters (len_Form_letters T) fun cdv A outer s H vs Q E hr h => ⟨t_Form_letters w T, (pss_one (ps_ret (pe_callB (cr_sortD rfl) (by rfl) T.n_sorted (by decide +kernel) (pa_cons (pe_lock (pe_dg2 (o := .dK []) (own := [("product", 1), ("name", 2)]) (vs1 := [2]) (g := (gName 1)) (tt := tYes) (g1 := (gName 2)) (tt1 := tYes) (tk := tVar 2) (tv := tC (.bl true)) .k hr.units0 rfl sc_Form_letters.nd (pi_keys (pe_fld (pv 0) rfl)) (blkOk_by (own := [("product", 1), ("name", 2)]) (N := ["self", "product", "name"]) (sc := defScope s_Form_letters) (by decide +kernel)) (by decide) (fun _ _ _ _ _ => (pg_name (i := 1) sc_Form_letters.nd rfl (Or.inl rfl))) (fun _ _ _ _ _ => pts_nil) (fun _ _ _ _ _ => (pi_tup (pv 1))) (fun _ _ _ _ _ => (pg_name (i := 2) sc_Form_letters.nd rfl (Or.inl rfl))) (fun _ _ _ _ _ => pts_nil) (fun _ _ _ _ _ => (pv 2)) (fun _ _ _ _ _ => pe_bl))) pa_nil)))), rd_Form_letters T vs H Q E h⟩
end
end CP

namespace CP
open PySem L2
section
variable {P : Program} {w : World} {K : PySem.W.Frag} {mg : Str → Option Value} {base : Heap}
def aboveM (v : Str → Int) (rs : List Tm) : Int := (rs.map fun r => r.2 * prodF v r.1).sum
theorem above_succ {v : Str → Int} {rs : List Tm} {i : Nat} {r : Tm} (h : rs[i]? = some r) : aboveM v (rs.take (i + 1)) = aboveM v (rs.take i) + r.2 * prodF v r.1 := by
  unfold aboveM
  rw [take_succ h, List.map_append, List.sum_append]
  simp
def sp_Form_above (T : Txt K mg) : Sp := fun vs H Q _ => match vs with
  | [.ref o, .ref a] => ∃ f kvs v, FormAt T.a_Form H o f ∧ FOk f ∧ H a = some (.dK kvs) ∧ (∀ r ∈ f.1, ∀ w ∈ r.1, valV kvs (Sum.inr w) = some (.int (v w)) ∧ (v w).natAbs < 2 ^ 400) ∧ (∀ r ∈ f.1, ∀ j, (r.2 * prodF v (r.1.take j)).natAbs < 2 ^ 4000) ∧
      ∀ H', Same H H' → Q (.int (aboveM v f.1)) H'
  | _ => False
def t_Form_above (w : World) (T : Txt K mg) : TS := tSeq (tAsg (tC (.int 0)) (gName 2)) (tSeq (tLock (tFor (iItemsT (tFld K (tVar 0) "rows")) (gTup K 2 (gCons (gName 3) (gCons (gName 4) gNil))) (tSeq (tFor (iTup K (tVar 3)) (gName 5) (tAsg (tOp oMul (tVar 4) (tDGet (tVar 1) (tVar 5))) (gName 4))) (tAsg (tOp oAdd (tVar 2) (tVar 4)) (gName 2))))) (tRet (tVar 2)))
theorem len_Form_above (T : Txt K mg) : ∀ (vs : List V) (H : Hp) (Q : VK) (E : XK), sp_Form_above T vs H Q E → vs.length = (["self", "values"] : List Str).length := by
  intro vs H Q E h
  unfold sp_Form_above at h
  split at h
  all_goals first | rfl | exact h.elim
theorem rd_Form_above (T : Txt K mg) (vs : List V) (H : Hp) (Q : VK) (E : XK) (h : sp_Form_above T vs H Q E) : t_Form_above w T { nx := fun _ H' => Q .non H', rt := Q } (start ["self", "values", "total", "product", "many", "name"] vs) H := by
  match vs, h with
  | [.ref o, .ref a], h =>
  obtain ⟨f, kvs, v, ⟨dx, d, ho, hd⟩, fo, ha, hv, hb, q⟩ := h
  have sz : sizeLine = 16777216 := rfl
  have ad : a ≠ d := fun z => by rw [z, hd] at ha; cases ha
  have od_ : o ≠ d := fun z => by rw [z, hd] at ho; cases ho
  unfold t_Form_above
  walk_at "st"
  repeat walk_at "w"
  refine r_lockTS hd fun od H1 h1 k1 sm => ?_
  repeat walk_at "w"
  refine r_iItemsT ?_
  repeat walk_at "w"
  refine r_fget (k1 _ _ od_ ho) T.c_Form T.n_Form_rows (by rfl) ?_
  have ha1 := k1 _ _ ad ha
  refine ⟨d, od, _, rfl, h1, for_itp (fun i σ H' => Same H1 H' ∧ ∃ x3 x4 x5, σ = [some (.ref o), some (.ref a), some (.int (aboveM v (f.1.take i))), x3, x4, x5]) ⟨Same.refl _, _, _, _, rfl⟩ (fun i σ H' _ w => w.1 _ _ h1) ?_ ?_⟩
  · rintro i k u t q1 σ H2 H3 hk ⟨s2, x3, x4, x5, rfl⟩ t0 hq s3 ht
    obtain ⟨r, hr, rfl, rfl⟩ := rowsT_get hk
    have hm := List.mem_of_getElem? hr
    rw [keyT_V] at hq
    have hq3 := CP.Same.to s3 hq
    have ha3 := CP.Same.to (s2.trans s3) ha1
    repeat walk_at "w"
    refine ⟨q1, rfl, ⟨_, .of hq3⟩, for_tup (K := K) (a := q1) (xs := strL r.1) (fun j σ H' => H' = H3 ∧ ∃ x5, σ = [some (.ref o), some (.ref a), some (.int (aboveM v (f.1.take i))), some (.ref q1), some (.int (r.2 * prodF v (r.1.take j))), x5]) ⟨rfl, _, by rw [List.take_zero]; show _ = [_, _, _, _, some (V.int (r.2 * 1)), _]; rw [Int.mul_one]⟩ (fun _ _ _ _ w => w.1 ▸ .of hq3) ?_ ?_⟩
    · rintro j x σ H4 hx ⟨rfl, y5, rfl⟩
      obtain ⟨w, hw, rfl⟩ := strL_get hx
      obtain ⟨g1, g2⟩ := hv r hm w (List.mem_of_getElem? hw)
      repeat walk_at "w"
      refine r_dgetS ha3 g1 ?_
      refine r_I (wide_mul (hb r hm j) g2 (by decide) (by decide) (by decide)) ?_
      repeat walk_at "w"
      exact ⟨rfl, _, by rw [take_succ hw, prodF_app, ← Int.mul_assoc]⟩
    · rintro σ H4 ⟨rfl, x5, rfl⟩
      rw [strL_len, List.take_length]
      repeat walk_at "w"
      exact ⟨s2.trans s3, _, _, _, by rw [above_succ hr]⟩
  · rintro σ H2 ⟨s2, x3, x4, x5, rfl⟩
    rw [rowsT_len, List.take_length]
    refine ⟨s2 _ _ h1, ?_⟩
    repeat walk_at "w"
    exact q _ (sm H2 s2)

theorem ok_Form_above (T : Txt K mg) : FnOk P w K mg base CX0 1 T.a_Form_above T.fd_Form_above ["self", "values"] (sp_Form_above T) :=
  T.F_Form_above.ok sc_Form_above (len_Form_above T) fun cdv A outer s H vs Q E hr h => ⟨t_Form_above w T, (pss_cons (ps_set (i := 2) sc_Form_above.nd rfl (Or.inl rfl) pe_int)
      (pss_cons (ps_lock (ps_for PassesOwn.never rfl (pi_itemsT (pe_fld (pv 0) rfl)) (pg_tup rfl (pgs_cons (pg_name (i := 3) sc_Form_above.nd rfl (Or.inl rfl)) (pgs_cons (pg_name (i := 4) sc_Form_above.nd rfl (Or.inl rfl)) pgs_nil))) (pss_cons (ps_for PassesOwn.never rfl (pi_tup (pv 3)) (pg_name (i := 5) sc_Form_above.nd rfl (Or.inl rfl)) (pss_one (ps_set (i := 4) sc_Form_above.nd rfl (Or.inl rfl) (pe_op op_mulW (pv 4) (pe_dget (hu_of hr) (pv 1) (pv 5) (fun _ _ => rfl))))))
      (pss_one (ps_set (i := 2) sc_Form_above.nd rfl (Or.inl rfl) (pe_op op_add (pv 2) (pv 4)))))))
      (pss_one (ps_ret (pv 2))))), rd_Form_above T vs H Q E h⟩
end
end CP

namespace CP
open PySem L2
section
variable {P : Program} {w : World} {K : PySem.W.Frag} {mg : Str → Option Value} {base : Heap}
def atF (v : Str → Int) (f : Fm) : V := if aboveM v f.1 % f.2 = 0 then .int (aboveM v f.1 / f.2) else .non
def sp_Form_at (T : Txt K mg) : Sp := fun vs H Q _ => match vs with
  | [.ref o, .ref a] => ∃ f kv, FormAt T.a_Form H o f ∧ FOk f ∧ (sset (f.1.flatMap fun r => r.1)).length < 64 ∧ H a = some (.dK (dV kv)) ∧ (∀ p ∈ kv, letB p.1 = true) ∧ (kv.map (·.1)).Nodup ∧ kv.length < 2000 ∧
      (∀ r ∈ f.1, ∀ w ∈ r.1, (getD kv w).isSome = true ∧ (atD kv w).natAbs < 2 ^ 400) ∧ (∀ r ∈ f.1, ∀ j, (r.2 * prodF (atD kv) (r.1.take j)).natAbs < 2 ^ 4000) ∧ ∀ H', Same H H' → Q (atF (atD kv) f) H'
  | _ => False
def t_Form_at (w : World) (T : Txt K mg) : TS := tSeq (tIfS (tOr (tNot (tB (tCall (sp_are_values T) [] E0 (tCons (tVar 1) (tNil))))) (tTest (tOp (rNeX K) (tLc (iList K (tMeth T.a_Form "letters" (sp_Form_letters T) [] E0 (tVar 0) tNil)) (gName 2) (tB (tDNotIn (tVar 2) (tVar 1))) (tVar 2) [2]) (tLst (tNil))))) (tNever) (tNext)) (tSeq (tAsg (tMeth T.a_Form "above" (sp_Form_above T) [] E0 (tVar 0) (tCons (tVar 1) (tNil))) (gName 3)) (tRet (tIf (tTest (tOp rEq (tOp oMod (tVar 3) (tFld K (tVar 0) "under")) (tC (.int 0)))) (tOp oDiv (tVar 3) (tFld K (tVar 0) "under")) (tC .non))))
theorem len_Form_at (T : Txt K mg) : ∀ (vs : List V) (H : Hp) (Q : VK) (E : XK), sp_Form_at T vs H Q E → vs.length = (["self", "values"] : List Str).length := by
  intro vs H Q E h
  unfold sp_Form_at at h
  split at h
  all_goals first | rfl | exact h.elim
theorem rd_Form_at (T : Txt K mg) (vs : List V) (H : Hp) (Q : VK) (E : XK) (h : sp_Form_at T vs H Q E) : t_Form_at w T { nx := fun _ H' => Q .non H', rt := Q } (start ["self", "values", "name", "total"] vs) H := by
  match vs, h with
  | [.ref o, .ref a], h =>
  obtain ⟨f, kv, hf, fo, few, ha, hl, nd, kl, hv, hb, q⟩ := h
  have sz : sizeLine = 16777216 := rfl
  obtain ⟨dx, d, ho, hd⟩ := id hf
  unfold t_Form_at
  walk_at "st"
  repeat walk_at "w"
  refine ⟨kv, ha, hl, nd, kl, fun H1 s1 => ?_⟩
  repeat walk_at "w"
  refine ⟨o, dx, _, rfl, CP.Same.to s1 ho, by rfl, ?_⟩
  repeat walk_at "w"
  refine ⟨f, hf.mono s1, fo, few, fun p H2 p0 s2 hp => ?_⟩
  have S2 := s1.trans s2
  have ha2 := CP.Same.to S2 ha
  refine ⟨p, rfl, ⟨_, .of hp⟩, fun D D0 => lc_noneL D0 (.of hp) (by rw [strL_len]; omega) (fun k z H3 hz s3 N no yes => ?_) fun H3 s3 hD => ?_⟩
  · obtain ⟨w, hw, rfl⟩ := strL_get hz
    obtain ⟨r, hr, hwr⟩ := List.mem_flatMap.mp (mem_sset.mp (List.mem_of_getElem? hw))
    obtain ⟨g1, g2⟩ := hv r hr w hwr
    have ha3 := CP.Same.to s3 ha2
    repeat walk_at "w"
    refine ⟨rfl, ?_⟩
    repeat walk_at "w"
    obtain ⟨n, gn⟩ := Option.isSome_iff_exists.mp g1
    rw [dV_val, gn]
    refine if_nf ?_
    exact no _ rfl (Same.refl _)
  repeat walk_at "w"
  rename_i M H4 M0 s4 hM
  refine nil_neX0 (.of (CP.Same.to s4 hD)) (.of hM) ?_
  repeat walk_at "w"
  have S4 := S2.trans (s3.trans s4)
  refine ⟨o, dx, _, rfl, CP.Same.to S4 ho, by rfl, ?_⟩
  repeat walk_at "w"
  refine ⟨f, dV kv, atD kv, hf.mono S4, fo, CP.Same.to S4 ha, fun r hr w hw => ?_, hb, fun H5 s5 => ?_⟩
  · obtain ⟨g1, g2⟩ := hv r hr w hw
    refine ⟨?_, g2⟩
    rw [dV_val]
    unfold atD
    obtain ⟨n, hn⟩ := Option.isSome_iff_exists.mp g1
    rw [hn]
    rfl
  have S5 := S4.trans s5
  have ho5 := CP.Same.to S5 ho
  have fp := fo.pos
  repeat walk_at "w"
  refine r_fget ho5 T.c_Form T.n_Form_under (by rfl) ?_
  have fin := q H5 S5
  unfold atF at fin
  generalize aboveM (atD kv) f.1 = tot at fin ⊢
  refine r_I fp.1 ?_
  repeat walk_at "w"
  refine if_d (fun k => ?_) fun k => ?_
  · rw [if_pos k] at fin
    repeat walk_at "w"
    refine r_fget ho5 T.c_Form T.n_Form_under (by rfl) ?_
    repeat walk_at "w"
    exact fin
  · rw [if_neg k] at fin
    repeat walk_at "w"
    exact fin

theorem ok_Form_at (T : Txt K mg) : FnOk P w K mg base CX0 3 T.a_Form_at T.fd_Form_at ["self", "values"] (sp_Form_at T) :=
  T.F_Form_at.ok sc_Form_at (len_Form_at T) fun cdv A outer s H vs Q E hr h => ⟨t_Form_at w T, (pss_cons (ps_if (PW.pt (pw_or (pt_not (pt_val (pe_call (ok_are_values T) (hr.mono (by decide)) (by rfl) T.m_are_values T.F_are_values.kp (b_are_values T) .nil pass0 (pa_cons (pv 1) pa_nil)))) (pw_or1 (pt_cmpR (op_neX hr.units) (pe_lc (own := [("name", 2)]) (g := (gName 2)) (tt := tB (tDNotIn (tVar 2) (tVar 1))) (te := tVar 2) rfl sc_Form_at.nd (pi_list (pe_meth0 (pv 0) T.c_Form T.M_Form_letters (ok_Form_letters T) (hr.mono (by decide)) (b_Form_letters T) .nil pass0)) (blkOk_by (own := [("name", 2)]) (N := ["self", "values", "name", "total"]) (sc := defScope s_Form_at) (by decide +kernel)) (fun _ _ _ _ _ => (pg_name (i := 2) sc_Form_at.nd rfl (Or.inl rfl))) (fun _ _ _ _ _ => (pts_one (pt_cmp (pc_dnotin (hu_of hr) (pv 2) (pv 1))))) (fun _ _ _ _ _ => (pv 2))) (pe_lst pa_nil) (nomark _))))) (pss_one ps_never) pss_nil)
      (pss_cons (ps_set (i := 3) sc_Form_at.nd rfl (Or.inl rfl) (pe_meth (pv 0) T.c_Form T.M_Form_above (ok_Form_above T) (hr.mono (by decide)) (b_Form_above T) .nil pass0 (pa_cons (pv 1) pa_nil)))
      (pss_one (ps_ret (pe_ifExp (pt_cmpR op_eq (pe_op op_mod (pv 3) (pe_fld (pv 0) rfl)) pe_int (nomark _)) (pe_op op_fdivW (pv 3) (pe_fld (pv 0) rfl)) pe_non))))), rd_Form_at T vs H Q E h⟩
end
end CP

namespace CP
open PySem L2
section
variable {P : Program} {w : World} {K : PySem.W.Frag} {mg : Str → Option Value} {base : Heap}
def sp_letter (T : Txt K mg) : Sp := fun vs H Q _ => match vs with
  | [.str z] => letB z = true ∧ ∀ o H', H o = none → Same H H' → FormN T.a_Form H H' o (monoM [z]) → Q (.ref o) H'
  | _ => False
def t_letter (w : World) (T : Txt K mg) : TS := tSeq (tDrop (tCall (sp_check_letter T) [] E0 (tCons (tVar 0) (tNil)))) (tRet (tCall (sp_made T) [] E0 (tCons (tDispT (tTup (tCons (tVar 0) (tNil))) (tC (.int 1))) (tCons (tC (.int 1)) (tNil)))))
theorem len_letter (T : Txt K mg) : ∀ (vs : List V) (H : Hp) (Q : VK) (E : XK), sp_letter T vs H Q E → vs.length = (["name"] : List Str).length := by
  intro vs H Q E h
  unfold sp_letter at h
  split at h
  all_goals first | rfl | exact h.elim
theorem rd_letter (T : Txt K mg) (vs : List V) (H : Hp) (Q : VK) (E : XK) (h : sp_letter T vs H Q E) : t_letter w T { nx := fun _ H' => Q .non H', rt := Q } (start ["name"] vs) H := by
  match vs, h with
  | [.str z], h =>
  obtain ⟨hz, q⟩ := h
  unfold t_letter
  walk_at "st"
  repeat walk_at "w"
  refine ⟨hz, fun H1 s1 => ?_⟩
  repeat walk_at "w"
  refine r_dispT fun d H2 d0 s2 hd => ?_
  repeat walk_at "w"
  rename_i t H3 t0 s3 ht
  refine ⟨CP.Same.to s3 hd, keyT [z], t, rfl, ht, ?_⟩
  have dt : d ≠ t := ne_of_none hd t0
  have S3 := s2.trans s3
  have sb : SB d H3 (upd H3 d (.dT [(keyT [z], .int 1)])) := sb_upd
  have hd4 : (upd H3 d (.dT [(keyT [z], V.int 1)])) d = some (.dT (rowsT [([z], 1)])) := upd_same
  generalize upd H3 d (.dT [(keyT [z], V.int 1)]) = H4 at sb hd4 ⊢
  have S4 : Same H1 H4 := CP.Same.sb S3 d0 sb
  repeat walk_at "w"
  refine ⟨[([z], 1)], hd4, by simp, by simp, by decide, by decide, fun o H5 o0 s5 hf => ?_⟩
  rw [made_mono] at hf
  have e : monoM [z] = ([([z], 1)], 1) := by
    unfold monoM
    rw [show srt [z] = [z] from srt_id (List.pairwise_singleton ..)]
  have S5 := s1.trans S4
  refine q o H5 (L2.Same.free S5 o0) (S5.trans s5) ?_
  rw [e]
  exact hf.back S5

theorem ok_letter (T : Txt K mg) : FnOk P w K mg base CX0 4 T.a_letter T.fd_letter ["name"] (sp_letter T) :=
  T.F_letter.ok sc_letter (len_letter T) fun cdv A outer s H vs Q E hr h => ⟨t_letter w T, (pss_cons (ps_expr (pe_call (ok_check_letter T) (hr.mono (by decide)) (by rfl) T.m_check_letter T.F_check_letter.kp (b_check_letter T) .nil pass0 (pa_cons (pv 0) pa_nil)))
      (pss_one (ps_ret (pe_call (ok_made T) (hr.mono (by decide)) (by rfl) T.m_made T.F_made.kp (b_made T) .nil pass0 (pa_cons (pe_dispT hr.units0 (pe_tup (pa_cons (pv 0) pa_nil)) pe_int) (pa_cons pe_int pa_nil)))))), rd_letter T vs H Q E h⟩
end
end CP

namespace CP
open PySem L2
section
variable {P : Program} {w : World} {K : PySem.W.Frag} {mg : Str → Option Value} {base : Heap}
def sp_number (T : Txt K mg) : Sp := fun vs H Q _ => match vs with
  | [.int n] => ∀ o H', H o = none → Same H H' → FormN T.a_Form H H' o (madeM [([], n)] 1) → Q (.ref o) H'
  | _ => False
def t_number (w : World) (T : Txt K mg) : TS := tSeq (tIfS (tNot (tB (tCall (sp_is_whole T) [] E0 (tCons (tVar 0) (tNil))))) (tNever) (tNext)) (tRet (tCall (sp_made T) [] E0 (tCons (tDispT (tTup (tNil)) (tVar 0)) (tCons (tC (.int 1)) (tNil)))))
theorem len_number (T : Txt K mg) : ∀ (vs : List V) (H : Hp) (Q : VK) (E : XK), sp_number T vs H Q E → vs.length = (["value"] : List Str).length := by
  intro vs H Q E h
  unfold sp_number at h
  split at h
  all_goals first | rfl | exact h.elim
theorem rd_number (T : Txt K mg) (vs : List V) (H : Hp) (Q : VK) (E : XK) (h : sp_number T vs H Q E) : t_number w T { nx := fun _ H' => Q .non H', rt := Q } (start ["value"] vs) H := by
  match vs, h with
  | [.int n], q =>
  have q : ∀ o H', H o = none → Same H H' → FormN T.a_Form H H' o (madeM [([], n)] 1) → Q (.ref o) H' := q
  unfold t_number
  walk_at "st"
  repeat walk_at "w"
  refine ⟨"int", .inl tk_int, ?_⟩
  rw [show ("int" == "int") = true by decide]
  repeat walk_at "w"
  refine r_dispT fun d H2 d0 s2 hd => ?_
  repeat walk_at "w"
  rename_i t H3 t0 s3 ht
  refine ⟨CP.Same.to s3 hd, keyT [], t, rfl, ht, ?_⟩
  have S3 := s2.trans s3
  have sb : SB d H3 (upd H3 d (.dT [(keyT [], .int n)])) := sb_upd
  have hd4 : (upd H3 d (.dT [(keyT [], V.int n)])) d = some (.dT (rowsT [([], n)])) := upd_same
  generalize upd H3 d (.dT [(keyT [], V.int n)]) = H4 at sb hd4 ⊢
  have S4 : Same H H4 := CP.Same.sb S3 d0 sb
  repeat walk_at "w"
  refine ⟨[([], n)], hd4, by simp, by simp, by decide, by decide, fun o H5 o0 s5 hf => ?_⟩
  exact q o H5 (L2.Same.free S4 o0) (S4.trans s5) (hf.back S4)

theorem ok_number (T : Txt K mg) : FnOk P w K mg base CX0 4 T.a_number T.fd_number ["value"] (sp_number T) :=
  T.F_number.ok sc_number (len_number T) fun cdv A outer s H vs Q E hr h => ⟨t_number w T, (pss_cons (ps_if (pt_not (pt_val (pe_call (ok_is_whole T) (hr.mono (by decide)) (by rfl) T.m_is_whole T.F_is_whole.kp (b_is_whole T) .nil pass0 (pa_cons (pv 0) pa_nil)))) (pss_one ps_never) pss_nil)
      (pss_one (ps_ret (pe_call (ok_made T) (hr.mono (by decide)) (by rfl) T.m_made T.F_made.kp (b_made T) .nil pass0 (pa_cons (pe_dispT hr.units0 (pe_tup pa_nil) (pv 0)) (pa_cons pe_int pa_nil)))))), rd_number T vs H Q E h⟩
end
end CP

namespace CP
open PySem L2
section
variable {P : Program} {w : World} {K : PySem.W.Frag} {mg : Str → Option Value} {base : Heap}
theorem cut_ints (ns : List Int) (lo hi : Option Int) : ∃ ms : List Int, cutV (ns.map V.int) lo hi = ms.map V.int := by
  unfold cutV
  rw [← List.map_drop, ← List.map_take]
  exact ⟨_, rfl⟩
/-- a purse from which at most c draws' steps were taken -/
def Pu (H : Hp) (p : Addr) (c : Int) : Prop := ∃ x y z i : Int, H p = some (.lst [.int x, .int y, .int z, .int i]) ∧ 0 ≤ x ∧ x < 10 ^ 480 ∧ 0 ≤ y ∧ y < 2147483629 ∧ 0 ≤ z ∧ z ≤ c ∧ 0 ≤ i ∧ i < 2 ^ 40
theorem Pu.mono {H H' : Hp} {p : Addr} {c : Int} (h : Pu H p c) (s : Same H H') : Pu H' p c := by
  obtain ⟨x, y, z, i, e, h⟩ := h
  exact ⟨x, y, z, i, CP.Same.to s e, h⟩
theorem Pu.sb {H H' : Hp} {p q : Addr} {c : Int} (h : Pu H p c) (s : SB q H H') (n : p ≠ q) : Pu H' p c := by
  obtain ⟨x, y, z, i, e, h⟩ := h
  exact ⟨x, y, z, i, s _ _ n e, h⟩
theorem Pu.up {H : Hp} {p : Addr} {c d : Int} (h : Pu H p c) (k : c ≤ d) : Pu H p d := by
  obtain ⟨x, y, z, i, e, h1, h2, h3, h4, h5, h6, h7⟩ := h
  exact ⟨x, y, z, i, e, h1, h2, h3, h4, h5, by omega, h7⟩
theorem Pu.some {H : Hp} {p : Addr} {c : Int} (h : Pu H p c) : ∃ o, H p = some o := by
  obtain ⟨x, y, z, i, e, _⟩ := h
  exact ⟨_, e⟩
theorem Pu.ne {H : Hp} {p q : Addr} {c : Int} (h : Pu H p c) (n : H q = none) : q ≠ p := by
  obtain ⟨o, e⟩ := h.some
  exact (ne_of_none e n).symm
/-- what is no such list stands beside a purse -/
theorem Pu.other {H : Hp} {p q : Addr} {c : Int} {o : HO} (h : Pu H p c) (e : H q = .some o) (n : ∀ x y z i : Int, o ≠ .lst [.int x, .int y, .int z, .int i]) : q ≠ p := fun k => by
  obtain ⟨x, y, z, i, e2, _⟩ := h
  rw [k, e2] at e
  exact n x y z i (Option.some.inj e).symm
theorem pow18 : CPw 10 18 := ⟨by decide, by decide, by decide +kernel⟩
theorem pow60 : CPw 10 60 := ⟨by decide, by decide, by decide +kernel⟩
theorem pow608 : CPw (10 ^ (60 : Int).toNat) 8 := ⟨by decide, by decide, by decide +kernel⟩
theorem pow480 : ((10 : Int) ^ (60 : Int).toNat) ^ (8 : Int).toNat = 10 ^ 480 := by decide +kernel
def sp_law_purse (_ : Txt K mg) : Sp := fun vs H Q _ => match vs with
  | [.ref a, .int i] => ∃ ns : List Int, SqL K H a (ns.map V.int) ∧ 0 ≤ i ∧ i < 2 ^ 40 ∧ ∀ p H', H p = none → Same H H' → Pu H' p 0 → Q (.ref p) H'
  | _ => False
def t_law_purse (w : World) (T : Txt K mg) : TS := tSeq (tAsg (tCB (rSum K) (tCons (tSl (rSlL K) (tVar 0) (tPart (tVar 1)) (tPart (tOp oAdd (tVar 1) (tC (.int 1))))) (tNil))) (gName 2)) (tRet (tLst (tCons (tOp oMod (tCB oMax2 (tCons (tOp oSub (tVar 2) (tOp oPow (tC (.int 10)) (tC (.int 18)))) (tCons (tC (.int 0)) (tNil)))) (tOp oPow (tOp oPow (tC (.int 10)) (tC (.int 60))) (tC (.int 8)))) (tCons (tOp oMod (tVar 2) (tC (.int 2147483629))) (tCons (tC (.int 0)) (tCons (tVar 1) (tNil)))))))
theorem len_law_purse (T : Txt K mg) : ∀ (vs : List V) (H : Hp) (Q : VK) (E : XK), sp_law_purse T vs H Q E → vs.length = (["_law_script", "_law_at"] : List Str).length := by
  intro vs H Q E h
  unfold sp_law_purse at h
  split at h
  all_goals first | rfl | exact h.elim
theorem rd_law_purse (T : Txt K mg) (vs : List V) (H : Hp) (Q : VK) (E : XK) (h : sp_law_purse T vs H Q E) : t_law_purse w T { nx := fun _ H' => Q .non H', rt := Q } (start ["_law_script", "_law_at", "_law_seed"] vs) H := by
  match vs, h with
  | [.ref a, .int i], h =>
  obtain ⟨ns, ha, hi, hi2, q⟩ := h
  unfold t_law_purse
  walk_at "st"
  repeat walk_at "s"
  rename_i l H1 l0 s1 l1
  obtain ⟨ms, e⟩ := cut_ints ns (some i) (some (i + 1))
  rw [e] at l1
  refine r_sum (.of l1) ?_
  generalize ms.sum = c
  repeat walk_at "s"
  refine r_I pow18 ?_
  repeat walk_at "s"
  refine r_I pow60 ?_
  repeat walk_at "s"
  refine r_I pow608 ?_
  rw [pow480]
  refine r_I (by decide +kernel) ?_
  repeat walk_at "s"
  rename_i p H2 p0 s2 p1
  have t : (0 : Int) < 10 ^ 480 := by decide +kernel
  exact q p H2 (s1.free p0) (s1.trans s2) ⟨_, _, _, _, p1, Int.emod_nonneg _ (by omega), Int.emod_lt_of_pos _ t, by omega, by omega, by omega, by omega, hi, hi2⟩

theorem ok_law_purse (T : Txt K mg) : FnOk P w K mg base CX0 1 T.a_law_purse T.fd_law_purse ["_law_script", "_law_at"] (sp_law_purse T) :=
  T.F_law_purse.ok sc_law_purse (len_law_purse T) fun cdv A outer s H vs Q E hr h => ⟨t_law_purse w T, (pss_cons (ps_set (i := 2) sc_law_purse.nd rfl (Or.inl rfl) (pe_callB (cr_sum rfl) (by rfl) T.n_sum (by decide +kernel) (pa_cons (pe_slice sl_list (pv 0) (po_some (pv 1)) (po_some (pe_op op_add (pv 1) pe_int))) pa_nil)))
      (pss_one (ps_ret (pe_lst (pa_cons (pe_op op_mod (pe_callB (call_maxA rfl) (by rfl) T.n_max (by decide +kernel) (pa_cons (pe_op op_sub (pv 2) (pe_op op_powW pe_int pe_int)) (pa_cons pe_int pa_nil))) (pe_op op_powW (pe_op op_powW pe_int pe_int) pe_int)) (pa_cons (pe_op op_mod (pv 2) pe_int) (pa_cons pe_int (pa_cons (pv 1) pa_nil)))))))), rd_law_purse T vs H Q E h⟩
end
end CP

namespace CP
open PySem L2
section
variable {P : Program} {w : World} {K : PySem.W.Frag} {mg : Str → Option Value} {base : Heap}
def mixM (a : Int) : Int := (a % 2147483647 * (a % 2147483647) + 40503) % 2147483629 * 48271 % 2147483587
theorem mixM_lt (a : Int) : 0 ≤ mixM a ∧ mixM a < 2147483587 := by
  unfold mixM
  omega
def sp_law_mixed (_ : Txt K mg) : Sp := fun vs H Q _ => match vs with
  | [.int s, .int t, .int i] => 0 ≤ s ∧ s < 2 ^ 40 ∧ 0 ≤ t ∧ t < 2 ^ 60 ∧ 0 ≤ i ∧ i < 2 ^ 40 ∧ ∀ g, 0 ≤ g → g < 2147483587 → Q (.int g) H
  | _ => False
def t_law_mixed (w : World) (T : Txt K mg) : TS := tSeq (tAsg (tOp oAdd (tOp oMul (tVar 0) (tC (.int 69069))) (tOp oMul (tOp oMul (tC (.int 104729)) (tVar 1)) (tVar 1))) (gName 3)) (tSeq (tAsg (tOp oMod (tOp oAdd (tOp oAdd (tVar 3) (tOp oMul (tC (.int 7919)) (tVar 2))) (tVar 1)) (tC (.int 2147483647))) (gName 3)) (tSeq (tAsg (tOp oMod (tOp oAdd (tOp oMul (tVar 3) (tVar 3)) (tC (.int 40503))) (tC (.int 2147483629))) (gName 3)) (tRet (tOp oMod (tOp oMul (tVar 3) (tC (.int 48271))) (tC (.int 2147483587))))))
theorem len_law_mixed (T : Txt K mg) : ∀ (vs : List V) (H : Hp) (Q : VK) (E : XK), sp_law_mixed T vs H Q E → vs.length = (["_law_seed", "_law_turn", "_law_at"] : List Str).length := by
  intro vs H Q E h
  unfold sp_law_mixed at h
  split at h
  all_goals first | rfl | exact h.elim
theorem rd_law_mixed (T : Txt K mg) (vs : List V) (H : Hp) (Q : VK) (E : XK) (h : sp_law_mixed T vs H Q E) : t_law_mixed w T { nx := fun _ H' => Q .non H', rt := Q } (start ["_law_seed", "_law_turn", "_law_at", "_law_mixed_here"] vs) H := by
  match vs, h with
  | [.int s, .int t, .int i], h =>
  obtain ⟨hs, hs2, ht, ht2, hi, hi2, q⟩ := h
  unfold t_law_mixed
  walk_at "st"
  repeat walk_at "s"
  exact q _ (mixM_lt _).1 (mixM_lt _).2

theorem ok_law_mixed (T : Txt K mg) : FnOk P w K mg base CX0 1 T.a_law_mixed T.fd_law_mixed ["_law_seed", "_law_turn", "_law_at"] (sp_law_mixed T) :=
  T.F_law_mixed.ok sc_law_mixed (len_law_mixed T) fun cdv A outer s H vs Q E hr h => ⟨t_law_mixed w T, (pss_cons (ps_set (i := 3) sc_law_mixed.nd rfl (Or.inl rfl) (pe_op op_add (pe_op op_mulW (pv 0) pe_int) (pe_op op_mulW (pe_op op_mulW pe_int (pv 1)) (pv 1))))
      (pss_cons (ps_set (i := 3) sc_law_mixed.nd rfl (Or.inl rfl) (pe_op op_mod (pe_op op_add (pe_op op_add (pv 3) (pe_op op_mulW pe_int (pv 2))) (pv 1)) pe_int))
      (pss_cons (ps_set (i := 3) sc_law_mixed.nd rfl (Or.inl rfl) (pe_op op_mod (pe_op op_add (pe_op op_mulW (pv 3) (pv 3)) pe_int) pe_int))
      (pss_one (ps_ret (pe_op op_mod (pe_op op_mulW (pv 3) pe_int) pe_int)))))), rd_law_mixed T vs H Q E h⟩
end
end CP

namespace CP
open PySem L2
section
variable {P : Program} {w : World} {K : PySem.W.Frag} {mg : Str → Option Value} {base : Heap}
/-- a draw below m leaves a purse, at most 60 steps further -/
def sp_law_draw (_ : Txt K mg) : Sp := fun vs H Q _ => match vs with
  | [.ref p, .int m] => ∃ c, Pu H p c ∧ c < 2 ^ 58 ∧ 0 < m ∧ m < 2 ^ 200 ∧ ∀ d H', 0 ≤ d → d < m → SB p H H' → Pu H' p (c + 60) → Q (.int d) H'
  | _ => False
theorem purse_bits {m : Int} (h : 0 < m) (h2 : m < 2 ^ 200) : 0 ≤ ((Builtin.Int.intBits m : Nat) : Int) ∧ ((Builtin.Int.intBits m : Nat) : Int) ≤ 200 := by
  have := PyProof.Rows.intBits_le (show m.natAbs < 2 ^ 200 by omega)
  omega
def t_law_draw (w : World) (T : Txt K mg) : TS := tSeq (tIfS (tTest (tOp oGt (tOp (rIxL K) (tVar 0) (tC (.int 0))) (tC (.int 0)))) (tSeq (tAsg (tOp oMod (tOp (rIxL K) (tVar 0) (tC (.int 0))) (tVar 1)) (gName 2)) (tSeq (tAsg (tOp oDiv (tOp (rIxL K) (tVar 0) (tC (.int 0))) (tVar 1)) (gSub (tVar 0) (tC (.int 0)) rSetL)) (tRet (tVar 2)))) (tNext)) (tSeq (tAsg (tC (.int 0)) (gName 3)) (tSeq (tFor (iRng1 (tCons (tOp oAdd (tC (.int 1)) (tOp oDiv (tBits (tVar 1)) (tC (.int 28)))) (tNil))) (gName 4) (tSeq (tAsg (tOp oAdd (tOp (rIxL K) (tVar 0) (tC (.int 2))) (tC (.int 1))) (gSub (tVar 0) (tC (.int 2)) rSetL)) (tAsg (tOp oAdd (tOp oMul (tVar 3) (tC (.int 2147483587))) (tCall (sp_law_mixed T) [] E0 (tCons (tOp (rIxL K) (tVar 0) (tC (.int 1))) (tCons (tOp (rIxL K) (tVar 0) (tC (.int 2))) (tCons (tOp (rIxL K) (tVar 0) (tC (.int 3))) (tNil)))))) (gName 3)))) (tRet (tOp oMod (tVar 3) (tVar 1)))))
theorem len_law_draw (T : Txt K mg) : ∀ (vs : List V) (H : Hp) (Q : VK) (E : XK), sp_law_draw T vs H Q E → vs.length = (["_law_purse_here", "_law_many"] : List Str).length := by
  intro vs H Q E h
  unfold sp_law_draw at h
  split at h
  all_goals first | rfl | exact h.elim
theorem rd_law_draw (T : Txt K mg) (vs : List V) (H : Hp) (Q : VK) (E : XK) (h : sp_law_draw T vs H Q E) : t_law_draw w T { nx := fun _ H' => Q .non H', rt := Q } (start ["_law_purse_here", "_law_many", "_law_drawn", "_law_found", "_law_piece"] vs) H := by
  match vs, h with
  | [.ref p, .int m], h =>
  obtain ⟨c, ⟨x, y, z, at', hp, x0, x1, y0, y1, z0, zc, t0, t1⟩, hz, hm, hm2, q⟩ := h
  unfold t_law_draw
  walk_at "st"
  repeat walk_at "s"
  refine r_ixL (.of hp) (v := .int x) (by rfl) ?_
  repeat walk_at "s"
  refine if_d (fun k => ?_) fun k => ?_
  · repeat walk_at "s"
    refine r_ixL (.of hp) (v := .int x) (by rfl) ?_
    repeat walk_at "s"
    refine r_ixL (.of hp) (v := .int x) (by rfl) ?_
    repeat walk_at "s"
    refine r_setL (j := 0) hp (by rfl) fun H1 s1 p1 => ?_
    repeat walk_at "s"
    have d0 : 0 ≤ x / m := Int.ediv_nonneg x0 (by omega)
    have d1 : x / m ≤ x := Int.ediv_le_self _ x0
    exact q _ H1 (Int.emod_nonneg _ (by omega)) (Int.emod_lt_of_pos _ hm) s1 ⟨_, _, z, at', p1, d0, by omega, y0, y1, z0, by omega, t0, t1⟩
  · repeat walk_at "s"
    have hb := purse_bits hm hm2
    generalize hg : ((Builtin.Int.intBits m : Nat) : Int) = b at hb ⊢
    refine r_rng (by omega) (by omega) ?_
    generalize hn : (1 + b / 28).toNat = n
    have hn2 : n ≤ 8 := by omega
    refine for_range (fun i σ H' => SB p H H' ∧ H' p = some (.lst [.int x, .int y, .int (z + (i : Int)), .int at']) ∧ ∃ (f : Int) (o : Option V), 0 ≤ f ∧ f < ((2 ^ (32 * i) : Nat) : Int) ∧ σ = [some (.ref p), some (.int m), none, some (.int f), o]) ⟨fun _ _ _ w => w, by rw [show ((0 : Nat) : Int) = 0 from rfl, Int.add_zero]; exact hp, 0, _, by decide, by decide, rfl⟩ ?_ ?_
    · rintro i σ H2 hi ⟨s2, p2, f, o, f0, f1, rfl⟩
      have hw : 2 ^ (32 * i) ≤ 2 ^ 256 := Nat.pow_le_pow_right (by decide) (by omega)
      have hw2 : 2 ^ (32 * (i + 1)) = 2 ^ (32 * i) * 2 ^ 32 := by rw [← Nat.pow_add]; rfl
      rw [hw2]
      generalize 2 ^ (32 * i) = w at hw f1 ⊢
      repeat walk_at "s"
      refine r_ixL (.of p2) (v := .int (z + i)) (by rfl) ?_
      repeat walk_at "s"
      refine r_setL (j := 2) p2 (by rfl) fun H3 s3 p3 => ?_
      have p4 : H3 p = some (.lst [.int x, .int y, .int (z + i + 1), .int at']) := p3
      repeat walk_at "s"
      refine r_ixL (.of p4) (v := .int y) (by rfl) ?_
      repeat walk_at "s"
      refine r_ixL (.of p4) (v := .int (z + i + 1)) (by rfl) ?_
      repeat walk_at "s"
      refine r_ixL (.of p4) (v := .int at') (by rfl) ?_
      repeat walk_at "s"
      refine ⟨y0, by omega, by omega, by omega, t0, t1, fun g ml0 ml1 => ?_⟩
      repeat walk_at "s"
      refine ⟨fun b o hb hb' => s3 b o hb (s2 b o hb hb'), ?_, _, _, ?_, ?_, rfl⟩
      · rw [show z + ((i + 1 : Nat) : Int) = z + i + 1 by omega]
        exact p4
      · omega
      · omega
    · rintro σ H2 ⟨s2, p2, f, o, f0, f1, rfl⟩
      repeat walk_at "s"
      exact q _ H2 (Int.emod_nonneg _ (by omega)) (Int.emod_lt_of_pos _ hm) s2 ⟨x, y, z + n, at', p2, x0, x1, y0, y1, by omega, by omega, t0, t1⟩

theorem ok_law_draw (T : Txt K mg) : FnOk P w K mg base CX0 2 T.a_law_draw T.fd_law_draw ["_law_purse_here", "_law_many"] (sp_law_draw T) :=
  T.F_law_draw.ok sc_law_draw (len_law_draw T) fun cdv A outer s H vs Q E hr h => ⟨t_law_draw w T, (pss_cons (ps_if (pt_cmpR op_gt (pe_ix ix_list (pv 0) pe_int (fun _ _ => rfl)) pe_int (nomark _)) (pss_cons (ps_set (i := 2) sc_law_draw.nd rfl (Or.inl rfl) (pe_op op_mod (pe_ix ix_list (pv 0) pe_int (fun _ _ => rfl)) (pv 1)))
      (pss_cons (ps_asg (pe_op op_fdivW (pe_ix ix_list (pv 0) pe_int (fun _ _ => rfl)) (pv 1)) (pg_sub (pv 0) pe_int set_list))
      (pss_one (ps_ret (pv 2))))) pss_nil)
      (pss_cons (ps_set (i := 3) sc_law_draw.nd rfl (Or.inl rfl) pe_int)
      (pss_cons (ps_for PassesOwn.never rfl (pi_range1 (by rfl) T.n_range (pa_cons (pe_op op_add pe_int (pe_op op_fdivW (pe_bits (pv 1)) pe_int)) pa_nil)) (pg_name (i := 4) sc_law_draw.nd rfl (Or.inl rfl)) (pss_cons (ps_asg (pe_op op_add (pe_ix ix_list (pv 0) pe_int (fun _ _ => rfl)) pe_int) (pg_sub (pv 0) pe_int set_list))
      (pss_one (ps_set (i := 3) sc_law_draw.nd rfl (Or.inl rfl) (pe_op op_add (pe_op op_mulW (pv 3) pe_int) (pe_call (ok_law_mixed T) (hr.mono (by decide)) (by rfl) T.m__law_mixed T.F_law_mixed.kp (b_law_mixed T) .nil pass0 (pa_cons (pe_ix ix_list (pv 0) pe_int (fun _ _ => rfl)) (pa_cons (pe_ix ix_list (pv 0) pe_int (fun _ _ => rfl)) (pa_cons (pe_ix ix_list (pv 0) pe_int (fun _ _ => rfl)) pa_nil)))))))))
      (pss_one (ps_ret (pe_op op_mod (pv 3) (pv 1))))))), rd_law_draw T vs H Q E h⟩
end
end CP

namespace CP
open PySem L2
section
variable {P : Program} {w : World} {K : PySem.W.Frag} {mg : Str → Option Value} {base : Heap}
def sp_law_purses (_ : Txt K mg) : Sp := fun vs H Q _ => match vs with
  | [.ref a, .int f] => ∃ ns : List Int, SqL K H a (ns.map V.int) ∧ ns.length ≤ 63 ∧ 1 ≤ f ∧ f ≤ 100 ∧ ∀ p H' (ps : List Addr), H p = none → Same H H' → H' p = some (.lst (ps.map V.ref)) → ps.Nodup → (∀ q ∈ ps, H q = none ∧ q ≠ p ∧ Pu H' q 0) → (ps.length : Int) ≤ f → Q (.ref p) H'
  | _ => False
def t_law_purses (w : World) (T : Txt K mg) : TS := tRet (tLc (iRng1 (tCons (tCB oMax2 (tCons (tC (.int 1)) (tCons (tCB oMin2 (tCons (tVar 1) (tCons (tCB (rLenA K) (tCons (tVar 0) (tNil))) (tNil)))) (tNil)))) (tNil))) (gName 2) (tYes) (tCall (sp_law_purse T) [] E0 (tCons (tVar 0) (tCons (tVar 2) (tNil)))) [2])
theorem len_law_purses (T : Txt K mg) : ∀ (vs : List V) (H : Hp) (Q : VK) (E : XK), sp_law_purses T vs H Q E → vs.length = (["_law_script", "_law_few"] : List Str).length := by
  intro vs H Q E h
  unfold sp_law_purses at h
  split at h
  all_goals first | rfl | exact h.elim
theorem rd_law_purses (T : Txt K mg) (vs : List V) (H : Hp) (Q : VK) (E : XK) (h : sp_law_purses T vs H Q E) : t_law_purses w T { nx := fun _ H' => Q .non H', rt := Q } (start ["_law_script", "_law_few", "_law_at"] vs) H := by
  match vs, h with
  | [.ref a, .int f], h =>
  obtain ⟨ns, ha, hn, f0, f1, q⟩ := h
  have sz : sizeLine = 16777216 := rfl
  unfold t_law_purses
  walk_at "st"
  repeat walk_at "w"
  generalize hj : (if (if ((ns.map V.int).length : Int) < f then ((ns.map V.int).length : Int) else f) > 1 then (if ((ns.map V.int).length : Int) < f then ((ns.map V.int).length : Int) else f) else 1).toNat = j
  have hj1 : (j : Int) ≤ f := by
    rw [← hj]
    split <;> (try split) <;> omega
  intro D hD
  refine lc_range (fun i H' => Same H H' ∧ ∃ ps : List Addr, H' D = some (.lst (ps.map V.ref)) ∧ ps.length = i ∧ ps.Nodup ∧ ∀ q ∈ ps, H q = none ∧ q ≠ D ∧ Pu H' q 0) ⟨same_new hD, [], upd_same, rfl, .nil, by simp⟩ (fun i H1 hi w => ?_) fun H1 w => ?_
  · obtain ⟨s1, ps, h1, hl, nd, pp⟩ := w
    repeat walk_at "w"
    refine ⟨rfl, r_yes (if_t ?_)⟩
    repeat walk_at "w"
    refine ⟨ns, L2.Same.seq s1 ha, by omega, by omega, fun p H2 p0 s2 hp => ?_⟩
    have pD : p ≠ D := (ne_of_none h1 p0).symm
    refine ⟨_, CP.Same.to s2 h1, by rw [List.length_map]; omega, ?_⟩
    have hb : SB D H2 (upd H2 D (.lst (ps.map V.ref ++ [.ref p]))) := sb_upd
    refine ⟨CP.Same.sb (s1.trans s2) hD hb, ps ++ [p], by rw [upd_same, List.map_append]; rfl, by rw [List.length_append]; simp [hl], ?_, fun q hq => ?_⟩
    · rw [List.nodup_append]
      refine ⟨nd, by simp, fun x hx y hy => ?_⟩
      rw [List.mem_singleton.mp hy]
      exact (pp x hx).2.2.ne p0 |>.symm
    · rcases List.mem_append.mp hq with hq | hq
      · obtain ⟨q1, q2, q3⟩ := pp q hq
        exact ⟨q1, q2, (q3.mono s2).sb hb q2⟩
      · rw [List.mem_singleton.mp hq]
        exact ⟨s1.free p0, pD, hp.sb hb pD⟩
  · obtain ⟨s1, ps, h1, hl, nd, pp⟩ := w
    exact q D H1 ps hD s1 h1 nd pp (by omega)

theorem ok_law_purses (T : Txt K mg) : FnOk P w K mg base CX0 2 T.a_law_purses T.fd_law_purses ["_law_script", "_law_few"] (sp_law_purses T) :=
  T.F_law_purses.ok sc_law_purses (len_law_purses T) fun cdv A outer s H vs Q E hr h => ⟨t_law_purses w T, (pss_one (ps_ret (pe_lc (own := [("_law_at", 2)]) (g := (gName 2)) (tt := tYes) (te := tCall (sp_law_purse T) [] E0 (tCons (tVar 0) (tCons (tVar 2) (tNil)))) rfl sc_law_purses.nd (pi_range1 (by rfl) T.n_range (pa_cons (pe_callB (call_maxA rfl) (by rfl) T.n_max (by decide +kernel) (pa_cons pe_int (pa_cons (pe_callB (call_minA rfl) (by rfl) T.n_min (by decide +kernel) (pa_cons (pv 1) (pa_cons (pe_callB call_lenA (by rfl) T.n_len (by decide +kernel) (pa_cons (pv 0) pa_nil)) pa_nil))) pa_nil))) pa_nil)) (blkOk_by (own := [("_law_at", 2)]) (N := ["_law_script", "_law_few", "_law_at"]) (sc := defScope s_law_purses) (by decide +kernel)) (fun _ _ _ _ _ => (pg_name (i := 2) sc_law_purses.nd rfl (Or.inl rfl))) (fun _ _ _ _ _ => pts_nil) (fun _ _ _ _ _ => (pe_call (ok_law_purse T) (hr.mono (by decide)) (by rfl) T.m__law_purse T.F_law_purse.kp (b_law_purse T) .nil pass0 (pa_cons (pv 0) (pa_cons (pv 2) pa_nil))))))), rd_law_purses T vs H Q E h⟩
end
end CP

namespace CP
open PySem L2
section
variable {P : Program} {w : World} {K : PySem.W.Frag} {mg : Str → Option Value} {base : Heap}
def sp_law_one_of (_ : Txt K mg) : Sp := fun vs H Q _ => match vs with
  | [.ref p, .ref a] => ∃ c xs, Pu H p c ∧ c < 2 ^ 58 ∧ H a = some (.lst xs) ∧ a ≠ p ∧ 0 < xs.length ∧ xs.length ≤ 1000 ∧ ∀ v H', v ∈ xs → SB p H H' → Pu H' p (c + 60) → Q v H'
  | _ => False
def t_law_one_of (w : World) (T : Txt K mg) : TS := tRet (tOp (rIxL K) (tVar 1) (tCall (sp_law_draw T) [] E0 (tCons (tVar 0) (tCons (tCB (rLenA K) (tCons (tVar 1) (tNil))) (tNil)))))
theorem len_law_one_of (T : Txt K mg) : ∀ (vs : List V) (H : Hp) (Q : VK) (E : XK), sp_law_one_of T vs H Q E → vs.length = (["_law_purse_here", "_law_some"] : List Str).length := by
  intro vs H Q E h
  unfold sp_law_one_of at h
  split at h
  all_goals first | rfl | exact h.elim
theorem rd_law_one_of (T : Txt K mg) (vs : List V) (H : Hp) (Q : VK) (E : XK) (h : sp_law_one_of T vs H Q E) : t_law_one_of w T { nx := fun _ H' => Q .non H', rt := Q } (start ["_law_purse_here", "_law_some"] vs) H := by
  match vs, h with
  | [.ref p, .ref a], h =>
  obtain ⟨c, xs, hp, hz, ha, ne, l0, l1, q⟩ := h
  have sz : sizeLine = 16777216 := rfl
  unfold t_law_one_of
  walk_at "st"
  repeat walk_at "w"
  refine ⟨c, hp, hz, by omega, by omega, fun d H1 d0 d1 b1 hp1 => ?_⟩
  obtain ⟨i, rfl⟩ := Int.eq_ofNat_of_zero_le d0
  have hi : i < xs.length := by omega
  refine r_ixL (.of (b1 _ _ ne ha)) (atI_nat (List.getElem?_eq_getElem hi)) ?_
  exact q _ H1 (List.getElem_mem hi) b1 hp1

theorem ok_law_one_of (T : Txt K mg) : FnOk P w K mg base CX0 3 T.a_law_one_of T.fd_law_one_of ["_law_purse_here", "_law_some"] (sp_law_one_of T) :=
  T.F_law_one_of.ok sc_law_one_of (len_law_one_of T) fun cdv A outer s H vs Q E hr h => ⟨t_law_one_of w T, (pss_one (ps_ret (pe_ix ix_list (pv 1) (pe_call (ok_law_draw T) (hr.mono (by decide)) (by rfl) T.m__law_draw T.F_law_draw.kp (b_law_draw T) .nil pass0 (pa_cons (pv 0) (pa_cons (pe_callB call_lenA (by rfl) T.n_len (by decide +kernel) (pa_cons (pv 1) pa_nil)) pa_nil))) (fun _ _ => rfl)))), rd_law_one_of T vs H Q E h⟩
end
end CP

namespace CP
open PySem L2
section
variable {P : Program} {w : World} {K : PySem.W.Frag} {mg : Str → Option Value} {base : Heap}
def sp_law_tree_n : Nat → Txt K mg → Sp
  | 0, _ => fun _ _ _ _ => False
  | n + 1, _ => fun vs H Q _ => match vs with
    | [.ref p, .int d, .ref a] => ∃ m : Nat, d = m ∧ m ≤ n ∧ n ≤ 3 ∧ ∃ c l, Pu H p c ∧ c + (300 * 2 ^ m - 60) < 2 ^ 58 ∧ H a = some (.lst (strL l)) ∧ a ≠ p ∧ l.length ≤ 8 ∧ (∀ w ∈ l, letB w = true) ∧ ∀ v t H', TrAt H' v t → TrOk l 7 m t → SB p H H' → Pu H' p (c + (300 * 2 ^ m - 60)) → Q v H'
    | _ => False
theorem if_tC {c : Bool} {a b : V} {σ : L2.St} {H : Hp} {Q : VK} (q : Q (if c = true then a else b) H) : if c = true then tC a σ H Q else tC b σ H Q := by
  cases c
  · exact q
  · exact q
def t_law_tree (n : Nat) (w : World) (T : Txt K mg) : TS := tSeq (tAsg (tCall (sp_law_draw T) [] E0 (tCons (tVar 0) (tCons (tIf (tTest (tOp oGt (tVar 1) (tC (.int 0)))) (tC (.int 7)) (tC (.int 2))) (tNil)))) (gName 3)) (tSeq (tIfS (tTest (tOp rEq (tVar 3) (tC (.int 0)))) (tRet (tTup (tCons (tC (.str "number")) (tCons (tCall (sp_law_one_of T) [] E0 (tCons (tVar 0) (tCons (tLst (tCons (tC (.int 0)) (tCons (tC (.int 1)) (tCons (tC (.int 2)) (tCons (tC (.int 3)) (tCons (tC (.int 7)) (tCons (tC (.int 12)) (tCons (tC (.int 99)) (tNil))))))))) (tNil)))) (tNil))))) (tNext)) (tSeq (tIfS (tOr (tTest (tOp rEq (tVar 3) (tC (.int 1)))) (tTest (tOp (rEqX K) (tVar 2) (tLst (tNil))))) (tRet (tIf (tTest (tOp (rNeX K) (tVar 2) (tLst (tNil)))) (tTup (tCons (tC (.str "letter")) (tCons (tCall (sp_law_one_of T) [] E0 (tCons (tVar 0) (tCons (tVar 2) (tNil)))) (tNil)))) (tTup (tCons (tC (.str "number")) (tCons (tC (.int 5)) (tNil)))))) (tNext)) (tSeq (tIfS (tTest (tOp rEq (tVar 3) (tC (.int 6)))) (tRet (tTup (tCons (tC (.str "divided")) (tCons (tCall (sp_law_tree_n n T) [] E0 (tCons (tVar 0) (tCons (tOp oSub (tVar 1) (tC (.int 1))) (tCons (tVar 2) (tNil))))) (tCons (tOp oAdd (tC (.int 1)) (tCall (sp_law_draw T) [] E0 (tCons (tVar 0) (tCons (tC (.int 6)) (tNil))))) (tNil)))))) (tNext)) (tSeq (tAsg (tOp (rIxL K) (tLst (tCons (tC (.str "plus")) (tCons (tC (.str "plus")) (tCons (tC (.str "minus")) (tCons (tC (.str "times")) (tNil)))))) (tOp oSub (tVar 3) (tC (.int 2)))) (gName 4)) (tRet (tTup (tCons (tVar 4) (tCons (tCall (sp_law_tree_n n T) [] E0 (tCons (tVar 0) (tCons (tOp oSub (tVar 1) (tC (.int 1))) (tCons (tVar 2) (tNil))))) (tCons (tCall (sp_law_tree_n n T) [] E0 (tCons (tVar 0) (tCons (tOp oSub (tVar 1) (tC (.int 1))) (tCons (tVar 2) (tNil))))) (tNil))))))))))
theorem no_law_tree (T : Txt K mg) (vs : List V) (H : Hp) (Q : VK) (E : XK) : ¬ sp_law_tree_n 0 T vs H Q E := fun h => h
theorem len_law_tree (T : Txt K mg) : ∀ (n : Nat) (vs : List V) (H : Hp) (Q : VK) (E : XK), sp_law_tree_n n T vs H Q E → vs.length = (["_law_purse_here", "_law_depth", "_law_names_here"] : List Str).length := by
  intro n vs H Q E h
  cases n with
  | zero => exact (no_law_tree T vs H Q E h).elim
  | succ n =>
    dsimp only [sp_law_tree_n] at h
    split at h
    all_goals first | rfl | exact h.elim
theorem rd_law_tree (T : Txt K mg) (n : Nat) (vs : List V) (H : Hp) (Q : VK) (E : XK) (h : sp_law_tree_n (n + 1) T vs H Q E) : t_law_tree n w T { nx := fun _ H' => Q .non H', rt := Q } (start ["_law_purse_here", "_law_depth", "_law_names_here", "_law_way", "_law_word"] vs) H := by
  match vs, h with
  | [.ref p, .int d, .ref a], h =>
  generalize n = N at h ⊢

  obtain ⟨n, rfl, hnN, hN, c, l, hp, hz, ha, ap, hl, hL, q⟩ := h
  have hn : n ≤ 3 := by omega
  have sz : sizeLine = 16777216 := rfl
  unfold t_law_tree
  walk_at "st"
  repeat walk_at "w"
  have c1 : (300 : Int) * 2 ^ n ≤ 300 * 8 := by
    have : n = 0 ∨ n = 1 ∨ n = 2 ∨ n = 3 := by omega
    rcases this with rfl | rfl | rfl | rfl <;> decide
  have p2 : 1 ≤ (2 : Int) ^ n := by
    have : n = 0 ∨ n = 1 ∨ n = 2 ∨ n = 3 := by omega
    rcases this with rfl | rfl | rfl | rfl <;> decide
  refine if_tC ?_
  obtain ⟨m, em, hm⟩ : ∃ m : Int, (if decide (0 < (n : Int)) = true then V.int 7 else V.int 2) = V.int m ∧ (m = 7 ∧ 1 ≤ n ∨ m = 2) := by
    by_cases k : 0 < (n : Int)
    · exact ⟨7, by rw [decide_eq_true k]; rfl, .inl ⟨rfl, by omega⟩⟩
    · exact ⟨2, by rw [decide_eq_false k]; rfl, .inr rfl⟩
  rw [em]
  repeat walk_at "w"
  refine ⟨c, hp, by omega, by omega, by omega, fun way H1 w0 w1 b1 hp1 => ?_⟩
  have ha1 := b1 _ _ ap ha
  repeat walk_at "w"
  refine if_d (fun k => ?_) fun k => ?_
  · repeat walk_at "w"
    rename_i xs H2 xs0 s2 hxs
    refine ⟨_, _, hp1.mono s2, by omega, hxs, hp1.ne xs0, by decide, by decide, fun v H3 hv b3 hp3 => ?_⟩
    obtain ⟨i, rfl, hi⟩ : ∃ i : Int, v = .int i ∧ i.natAbs < 2 ^ 7 := by
      simp only [List.mem_cons, List.mem_nil_iff, or_false] at hv
      rcases hv with rfl | rfl | rfl | rfl | rfl | rfl | rfl <;> exact ⟨_, rfl, by decide⟩
    repeat walk_at "w"
    rename_i t H4 t0 s4 ht
    exact q _ (.num i) _ ⟨t, rfl, ht⟩ (by cases n <;> exact hi) (SB.trans' (SB.trans' b1 (Same.sb' s2)) (SB.trans' b3 (Same.sb' s4))) ((hp3.mono s4).up (by omega))
  · repeat walk_at "w"
    have lay := lay_strs (xs := l) fun x hx => let_lay (hL x hx)
    have dps : ∀ {H : Hp}, ∃ ds, DpAll K H (strL l) ds ∧ PyData.canLayAll0 ds = true ∧ PyData.depthAll ds ≤ 60 := ⟨_, dpA_strs l, lay.1, by rw [lay.2]; decide⟩
    have five : ∀ {H3 : Hp} {t : Addr}, Same H1 H3 → H3 t = some (.tup [.str "number", .int 5]) → Q (.ref t) H3 := fun {H3 t} s3 ht => q _ (.num 5) _ ⟨t, rfl, ht⟩ (by cases n <;> exact (by decide : (5 : Int).natAbs < 2 ^ 7)) (SB.trans' b1 (Same.sb' s3)) ((hp1.mono s3).up (by omega))
    refine if_d (fun k1 => ?_) fun k1 => ?_
    · repeat walk_at "w"
      rename_i e H2 e0 s2 he
      refine nil_neX (.of (CP.Same.to s2 ha1)) (.of he) dps ?_
      cases l with
      | nil =>
        repeat walk_at "w"
        refine if_f ?_
        repeat walk_at "w"
        rename_i t H3 t0 s3 ht
        exact five (s2.trans s3) ht
      | cons w l' =>
        repeat walk_at "w"
        refine if_t ?_
        repeat walk_at "w"
        refine ⟨_, _, hp1.mono s2, by omega, CP.Same.to s2 ha1, ap, by rw [strL_len]; exact Nat.succ_pos _, by rw [strL_len]; omega, fun v H3 hv b3 hp3 => ?_⟩
        obtain ⟨z, hz', rfl⟩ := List.mem_map.mp hv
        repeat walk_at "w"
        rename_i t H4 t0 s4 ht
        exact q _ (.let z) _ ⟨t, rfl, ht⟩ (by cases n <;> exact hz') (SB.trans' (SB.trans' b1 (Same.sb' s2)) (SB.trans' b3 (Same.sb' s4))) ((hp3.mono s4).up (by omega))
    · repeat walk_at "w"
      rename_i e H2 e0 s2 he
      refine nil_eqX (.of (CP.Same.to s2 ha1)) (.of he) dps ?_
      have ha2 := CP.Same.to s2 ha1
      have hp2 := hp1.mono s2
      cases l with
      | nil =>
        repeat walk_at "w"
        refine if_t ?_
        repeat walk_at "w"
        rename_i e2 H3 e20 s3 he2
        refine nil_neX (.of (CP.Same.to s3 ha2)) (.of he2) dps ?_
        repeat walk_at "w"
        refine if_f ?_
        repeat walk_at "w"
        rename_i t H4 t0 s4 ht
        exact five (s2.trans (s3.trans s4)) ht
      | cons w l' =>
        repeat walk_at "w"
        refine if_f ?_
        repeat walk_at "w"
        have hm7 : m = 7 ∧ 1 ≤ n := by omega
        obtain ⟨n, rfl⟩ : ∃ j, n = j + 1 := ⟨n - 1, by omega⟩
        obtain ⟨N, rfl⟩ : ∃ j, N = j + 1 := ⟨N - 1, by omega⟩
        have p3 : (300 : Int) * 2 ^ (n + 1) = 300 * 2 ^ n + 300 * 2 ^ n := by rw [Int.pow_succ]; omega
        have p4 : 1 ≤ (2 : Int) ^ n := by
          have : n = 0 ∨ n = 1 ∨ n = 2 := by omega
          rcases this with rfl | rfl | rfl <;> decide
        have go : ∀ {K3 : VK} {E3 : XK} {H3 : Hp} {c3 : Int}, Pu H3 p c3 → c3 + (300 * 2 ^ n - 60) < 2 ^ 58 → H3 a = some (.lst (strL (w :: l'))) → (∀ v t H', TrAt H' v t → TrOk (w :: l') 7 n t → SB p H3 H' → Pu H' p (c3 + (300 * 2 ^ n - 60)) → K3 v H') → sp_law_tree_n (N + 1) T [.ref p, .int (((n + 1 : Nat) : Int) - 1), .ref a] H3 K3 E3 := fun h3 z3 a3 q3 =>
          ⟨n, by omega, by omega, by omega, _, _, h3, z3, a3, ap, hl, hL, q3⟩
        refine if_d (fun k2 => ?_) fun k2 => ?_
        · repeat walk_at "w"
          refine go hp2 (by omega) ha2 fun v t H3 ht hk b3 hp3 => ?_
          repeat walk_at "w"
          refine ⟨_, hp3, by omega, by decide, by decide, fun d H4 d0 d1 b4 hp4 => ?_⟩
          repeat walk_at "w"
          rename_i r H5 r0 s5 hr
          obtain ⟨x, y, zz, ii, e3, _⟩ := hp3
          exact q _ (.div t (1 + d)) _ ⟨r, v, rfl, hr, (ht.stay (stay_sb e3 b4)).stay (stay_same s5)⟩ ⟨by omega, by omega, hk⟩ (SB.trans' (SB.trans' (SB.trans' b1 (Same.sb' s2)) b3) (SB.trans' b4 (Same.sb' s5))) ((hp4.mono s5).up (by omega))
        · repeat walk_at "w"
          rename_i ws H3 ws0 s3 hws
          have i4 : ∃ j : Nat, way - 2 = (j : Int) ∧ j < 4 := ⟨(way - 2).toNat, by omega, by omega⟩
          obtain ⟨j, ej, hj⟩ := i4
          obtain ⟨o, ho⟩ : ∃ o : Ow, ([.str "plus", .str "plus", .str "minus", .str "times"] : List V)[j]? = some (.str o.word) := by
            have : j = 0 ∨ j = 1 ∨ j = 2 ∨ j = 3 := by omega
            rcases this with rfl | rfl | rfl | rfl
            · exact ⟨.plus, rfl⟩
            · exact ⟨.plus, rfl⟩
            · exact ⟨.minus, rfl⟩
            · exact ⟨.times, rfl⟩
          rw [ej]
          refine r_ixL (.of hws) (v := .str o.word) (atI_nat ho) ?_
          have hp3 := hp2.mono s3
          repeat walk_at "w"
          refine go hp3 (by omega) (CP.Same.to s3 ha2) fun v t H4 ht hk b4 hp4 => ?_
          repeat walk_at "w"
          refine go hp4 (by omega) (b4 _ _ ap (CP.Same.to s3 ha2)) fun v2 t2 H5 ht2 hk2 b5 hp5 => ?_
          repeat walk_at "w"
          rename_i r H6 r0 s6 hr
          obtain ⟨x, y, zz, ii, e4, _⟩ := hp4
          exact q _ (.op o t t2) _ ⟨r, v, v2, rfl, hr, (ht.stay (stay_sb e4 b5)).stay (stay_same s6), ht2.stay (stay_same s6)⟩ ⟨hk, hk2⟩ (SB.trans' (SB.trans' (SB.trans' b1 (Same.sb' (s2.trans s3))) b4) (SB.trans' b5 (Same.sb' s6))) ((hp5.mono s6).up (by omega))

theorem okn_law_tree (T : Txt K mg) : ∀ n : Nat, FnOk P w K mg base CX0 (3 + n) T.a_law_tree T.fd_law_tree ["_law_purse_here", "_law_depth", "_law_names_here"] (sp_law_tree_n n T)
  | 0 => ⟨fun vs H Q E h => absurd h (no_law_tree T vs H Q E), fun A outer s H args us vs Q E _ _ _ _ h => absurd h (no_law_tree T vs H Q E)⟩
  | n + 1 => by
    have ih := okn_law_tree T n
    exact T.F_law_tree.ok sc_law_tree (len_law_tree T (n + 1)) fun cdv A outer s H vs Q E hr h => ⟨t_law_tree n w T, (pss_cons (ps_set (i := 3) sc_law_tree.nd rfl (Or.inl rfl) (pe_call (ok_law_draw T) (hr.mono (by (try simp only [Nat.add_eq]); omega)) (by rfl) T.m__law_draw T.F_law_draw.kp (b_law_draw T) .nil pass0 (pa_cons (pv 0) (pa_cons (pe_ifExp (pt_cmpR op_gt (pv 1) pe_int (nomark _)) pe_int pe_int) pa_nil))))
      (pss_cons (ps_if (pt_cmpR op_eq (pv 3) pe_int (nomark _)) (pss_one (ps_ret (pe_tup (pa_cons pe_str (pa_cons (pe_call (ok_law_one_of T) (hr.mono (by (try simp only [Nat.add_eq]); omega)) (by rfl) T.m__law_one_of T.F_law_one_of.kp (b_law_one_of T) .nil pass0 (pa_cons (pv 0) (pa_cons (pe_lst (pa_cons pe_int (pa_cons pe_int (pa_cons pe_int (pa_cons pe_int (pa_cons pe_int (pa_cons pe_int (pa_cons pe_int pa_nil)))))))) pa_nil))) pa_nil))))) pss_nil)
      (pss_cons (ps_if (PW.pt (pw_or (pt_cmpR op_eq (pv 3) pe_int (nomark _)) (pw_or1 (pt_cmpR (op_eqX hr.units) (pv 2) (pe_lst pa_nil) (nomark _))))) (pss_one (ps_ret (pe_ifExp (pt_cmpR (op_neX hr.units) (pv 2) (pe_lst pa_nil) (nomark _)) (pe_tup (pa_cons pe_str (pa_cons (pe_call (ok_law_one_of T) (hr.mono (by (try simp only [Nat.add_eq]); omega)) (by rfl) T.m__law_one_of T.F_law_one_of.kp (b_law_one_of T) .nil pass0 (pa_cons (pv 0) (pa_cons (pv 2) pa_nil))) pa_nil))) (pe_tup (pa_cons pe_str (pa_cons pe_int pa_nil)))))) pss_nil)
      (pss_cons (ps_if (pt_cmpR op_eq (pv 3) pe_int (nomark _)) (pss_one (ps_ret (pe_tup (pa_cons pe_str (pa_cons (pe_call ih (hr.mono (by (try simp only [Nat.add_eq]); omega)) (by rfl) T.m__law_tree T.F_law_tree.kp (b_law_tree T) .nil pass0 (pa_cons (pv 0) (pa_cons (pe_op op_sub (pv 1) pe_int) (pa_cons (pv 2) pa_nil)))) (pa_cons (pe_op op_add pe_int (pe_call (ok_law_draw T) (hr.mono (by (try simp only [Nat.add_eq]); omega)) (by rfl) T.m__law_draw T.F_law_draw.kp (b_law_draw T) .nil pass0 (pa_cons (pv 0) (pa_cons pe_int pa_nil)))) pa_nil)))))) pss_nil)
      (pss_cons (ps_set (i := 4) sc_law_tree.nd rfl (Or.inl rfl) (pe_ix ix_list (pe_lst (pa_cons pe_str (pa_cons pe_str (pa_cons pe_str (pa_cons pe_str pa_nil))))) (pe_op op_sub (pv 3) pe_int) (fun _ _ => rfl)))
      (pss_one (ps_ret (pe_tup (pa_cons (pv 4) (pa_cons (pe_call ih (hr.mono (by (try simp only [Nat.add_eq]); omega)) (by rfl) T.m__law_tree T.F_law_tree.kp (b_law_tree T) .nil pass0 (pa_cons (pv 0) (pa_cons (pe_op op_sub (pv 1) pe_int) (pa_cons (pv 2) pa_nil)))) (pa_cons (pe_call ih (hr.mono (by (try simp only [Nat.add_eq]); omega)) (by rfl) T.m__law_tree T.F_law_tree.kp (b_law_tree T) .nil pass0 (pa_cons (pv 0) (pa_cons (pe_op op_sub (pv 1) pe_int) (pa_cons (pv 2) pa_nil)))) pa_nil))))))))))), rd_law_tree T n vs H Q E h⟩
def sp_law_tree (T : Txt K mg) : Sp := sp_law_tree_n 4 T
theorem ok_law_tree (T : Txt K mg) : FnOk P w K mg base CX0 7 T.a_law_tree T.fd_law_tree ["_law_purse_here", "_law_depth", "_law_names_here"] (sp_law_tree T) := okn_law_tree T 4
end
end CP

namespace CP
open PySem L2
section
variable {P : Program} {w : World} {K : PySem.W.Frag} {mg : Str → Option Value} {base : Heap}
def sp_law_form_n : Nat → Txt K mg → Sp
  | 0, _ => fun _ _ _ _ => False
  | n + 1, T => fun vs H Q _ => match vs with
    | [v] => ∃ t L, TrAt H v t ∧ TrOk L 7 n t ∧ n ≤ 3 ∧ (∀ w ∈ L, letB w = true) ∧ ∀ p H', H p = none → Same H H' → FormN T.a_Form H H' p (formM t) → Q (.ref p) H'
    | _ => False
theorem tr_ok {L : List Str} {n : Nat} {t : Tr} (hL : ∀ w ∈ L, letB w = true) (h : TrOk L 7 n t) (hn : n ≤ 3) : FOk (formM t) := by
  have f := h.fq (by decide)
  have : 2 ^ n ≤ 2 ^ 3 := pow_up hn
  have t1 : 2 ^ 2 ^ n ≤ 2 ^ 8 := pow_up (by omega)
  exact f.ok hL (by omega) (by omega) (by omega) (by omega)
def t_law_form (n : Nat) (w : World) (T : Txt K mg) : TS := tSeq (tIfS (tTest (tOp (rEqX K) (tOp (rIxT K) (tVar 0) (tC (.int 0))) (tC (.str "number")))) (tRet (tCall (sp_number T) [] E0 (tCons (tOp (rIxT K) (tVar 0) (tC (.int 1))) (tNil)))) (tNext)) (tSeq (tIfS (tTest (tOp (rEqX K) (tOp (rIxT K) (tVar 0) (tC (.int 0))) (tC (.str "letter")))) (tRet (tCall (sp_letter T) [] E0 (tCons (tOp (rIxT K) (tVar 0) (tC (.int 1))) (tNil)))) (tNext)) (tSeq (tAsg (tCall (sp_law_form_n n T) [] E0 (tCons (tOp (rIxT K) (tVar 0) (tC (.int 1))) (tNil))) (gName 1)) (tSeq (tIfS (tTest (tOp (rEqX K) (tOp (rIxT K) (tVar 0) (tC (.int 0))) (tC (.str "divided")))) (tRet (tMeth T.a_Form "over" (sp_Form_over T) [] E0 (tVar 1) (tCons (tOp (rIxT K) (tVar 0) (tC (.int 2))) (tNil)))) (tNext)) (tSeq (tAsg (tCall (sp_law_form_n n T) [] E0 (tCons (tOp (rIxT K) (tVar 0) (tC (.int 2))) (tNil))) (gName 2)) (tSeq (tIfS (tTest (tOp (rEqX K) (tOp (rIxT K) (tVar 0) (tC (.int 0))) (tC (.str "times")))) (tRet (tOp (rBinO T.a_Form (sp_Form___mul T) E0) (tVar 1) (tVar 2))) (tNext)) (tRet (tIf (tTest (tOp (rEqX K) (tOp (rIxT K) (tVar 0) (tC (.int 0))) (tC (.str "minus")))) (tOp (rBinO T.a_Form (sp_Form___sub T) E0) (tVar 1) (tVar 2)) (tOp (rBinO T.a_Form (sp_Form___add T) E0) (tVar 1) (tVar 2)))))))))
theorem no_law_form (T : Txt K mg) (vs : List V) (H : Hp) (Q : VK) (E : XK) : ¬ sp_law_form_n 0 T vs H Q E := fun h => h
theorem len_law_form (T : Txt K mg) : ∀ (n : Nat) (vs : List V) (H : Hp) (Q : VK) (E : XK), sp_law_form_n n T vs H Q E → vs.length = (["_law_tree_here"] : List Str).length := by
  intro n vs H Q E h
  cases n with
  | zero => exact (no_law_form T vs H Q E h).elim
  | succ n =>
    dsimp only [sp_law_form_n] at h
    split at h
    all_goals first | rfl | exact h.elim
theorem rd_law_form (T : Txt K mg) (n : Nat) (vs : List V) (H : Hp) (Q : VK) (E : XK) (h : sp_law_form_n (n + 1) T vs H Q E) : t_law_form n w T { nx := fun _ H' => Q .non H', rt := Q } (start ["_law_tree_here", "_law_first", "_law_second"] vs) H := by
  match vs, h with
  | [v], h =>
  obtain ⟨t, L, ht, hk, hn, hL, q⟩ := h
  have sz : sizeLine = 16777216 := rfl
  unfold t_law_form
  walk_at "st"
  repeat walk_at "w"
  cases t with
  | num i =>
    obtain ⟨a, rfl, ha⟩ := ht
    refine r_ixT (i := 0) (.of ha) (v := .str "number") (by rfl) ?_
    repeat walk_at "w"
    rw [w_nn]
    repeat walk_at "w"
    refine r_ixT (i := 1) (.of ha) (v := .int i) (by rfl) ?_
    repeat walk_at "w"
    exact q
  | «let» w =>
    obtain ⟨a, rfl, ha⟩ := ht
    refine r_ixT (i := 0) (.of ha) (v := .str "letter") (by rfl) ?_
    repeat walk_at "w"
    rw [w_ln]
    repeat walk_at "w"
    refine r_ixT (i := 0) (.of ha) (v := .str "letter") (by rfl) ?_
    repeat walk_at "w"
    rw [w_ll]
    repeat walk_at "w"
    refine r_ixT (i := 1) (.of ha) (v := .str w) (by rfl) ?_
    repeat walk_at "w"
    exact ⟨hL w (by cases n <;> exact hk), q⟩
  | div b k =>
    obtain ⟨a, x, rfl, ha, hx⟩ := ht
    refine r_ixT (i := 0) (.of ha) (v := .str "divided") (by rfl) ?_
    repeat walk_at "w"
    rw [w_dn]
    repeat walk_at "w"
    refine r_ixT (i := 0) (.of ha) (v := .str "divided") (by rfl) ?_
    repeat walk_at "w"
    rw [w_dl]
    repeat walk_at "w"
    cases n with
    | zero => exact hk.elim
    | succ n =>
      refine r_ixT (i := 1) (.of ha) (v := x) (by rfl) ?_
      repeat walk_at "w"
      refine ⟨b, L, hx, hk.2.2, by omega, hL, fun o H1 o0 s1 ho => ?_⟩
      have ha1 := CP.Same.to s1 ha
      repeat walk_at "w"
      refine r_ixT (i := 0) (.of ha1) (v := .str "divided") (by rfl) ?_
      repeat walk_at "w"
      rw [w_dd]
      repeat walk_at "w"
      obtain ⟨dx, dd, ho1, _⟩ := ho.at
      refine ⟨o, dx, _, rfl, ho1, by rfl, ?_⟩
      repeat walk_at "w"
      refine r_ixT (i := 2) (.of ha1) (v := .int k) (by rfl) ?_
      repeat walk_at "w"
      have k1 := hk.1
      have k2 := hk.2.1
      exact ⟨_, ho.at, tr_ok hL hk.2.2 (by omega), by omega, by omega, fun p H2 p0 s2 hp => q p H2 (L2.Same.free s1 p0) (s1.trans s2) (hp.back s1)⟩
  | op o b c =>
    obtain ⟨a, x, y, rfl, ha, hx, hy⟩ := ht
    refine r_ixT (i := 0) (.of ha) (v := .str o.word) (by rfl) ?_
    repeat walk_at "w"
    rw [o.out.1]
    repeat walk_at "w"
    refine r_ixT (i := 0) (.of ha) (v := .str o.word) (by rfl) ?_
    repeat walk_at "w"
    rw [o.out.2.1]
    repeat walk_at "w"
    cases n with
    | zero => exact hk.elim
    | succ n =>
      refine r_ixT (i := 1) (.of ha) (v := x) (by rfl) ?_
      repeat walk_at "w"
      refine ⟨b, L, hx, hk.1, by omega, hL, fun f H1 f0 s1 hf => ?_⟩
      have ha1 := CP.Same.to s1 ha
      repeat walk_at "w"
      refine r_ixT (i := 0) (.of ha1) (v := .str o.word) (by rfl) ?_
      repeat walk_at "w"
      rw [o.out.2.2]
      repeat walk_at "w"
      refine r_ixT (i := 2) (.of ha1) (v := y) (by rfl) ?_
      repeat walk_at "w"
      refine ⟨c, L, hy.stay (stay_same s1), hk.2, by omega, hL, fun g H2 g0 s2 hg => ?_⟩
      have ha2 := CP.Same.to s2 ha1
      have S2 := s1.trans s2
      have of := tr_ok hL hk.1 (show n ≤ 3 by omega)
      have og := tr_ok hL hk.2 (show n ≤ 3 by omega)
      have hf2 := hf.at.mono s2
      obtain ⟨dx, d1, hf3, hd3⟩ := id hf2
      obtain ⟨dy, d2, hg3, hg4, hg5⟩ := id hg
      have fin : ∀ p H3, H2 p = none → Same H2 H3 → FormN T.a_Form H2 H3 p (formM (.op o b c)) → Q (.ref p) H3 := fun p H3 p0 s3 hp => q p H3 (L2.Same.free S2 p0) (S2.trans s3) (hp.back S2)
      have ne : d1 ≠ d2 := by
        obtain ⟨dz, d4, e1, e2, _⟩ := id hf
        rw [CP.Same.to s2 e1] at hf3
        cases hf3
        exact ne_of_none e2 hg5
      repeat walk_at "w"
      refine r_ixT (i := 0) (.of ha2) (v := .str o.word) (by rfl) ?_
      repeat walk_at "w"
      cases o with
      | times =>
        rw [Ow.is .times |>.1]
        repeat walk_at "w"
        exact ⟨f, g, dx, dy, _, _, rfl, rfl, hf3, hg3, formM b, formM c, dx, d1, hf3, hd3, .inl ⟨g, dy, d2, rfl, hg3, hg4, ne⟩, of, og, fun p H3 p0 s3 hp => ⟨p, rfl, fin p H3 p0 s3 hp⟩⟩
      | minus =>
        rw [Ow.is .minus |>.1]
        repeat walk_at "w"
        refine r_ixT (i := 0) (.of ha2) (v := .str Ow.minus.word) (by rfl) ?_
        repeat walk_at "w"
        rw [Ow.is .minus |>.2]
        repeat walk_at "w"
        exact ⟨f, g, dx, dy, _, _, rfl, rfl, hf3, hg3, formM b, formM c, hf2, of, og, .inl ⟨g, rfl, hg.at⟩, fun p H3 p0 s3 hp => ⟨p, rfl, fin p H3 p0 s3 hp⟩⟩
      | plus =>
        rw [Ow.is .plus |>.1]
        repeat walk_at "w"
        refine r_ixT (i := 0) (.of ha2) (v := .str Ow.plus.word) (by rfl) ?_
        repeat walk_at "w"
        rw [Ow.is .plus |>.2]
        repeat walk_at "w"
        exact ⟨f, g, dx, dy, _, _, rfl, rfl, hf3, hg3, formM b, formM c, hf2, .inl ⟨g, rfl, hg.at⟩, of, og, fun p H3 p0 s3 hp => ⟨p, rfl, fin p H3 p0 s3 hp⟩⟩

theorem okn_law_form (T : Txt K mg) : ∀ n : Nat, FnOk P w K mg base CX0 (8 + n) T.a_law_form T.fd_law_form ["_law_tree_here"] (sp_law_form_n n T)
  | 0 => ⟨fun vs H Q E h => absurd h (no_law_form T vs H Q E), fun A outer s H args us vs Q E _ _ _ _ h => absurd h (no_law_form T vs H Q E)⟩
  | n + 1 => by
    have ih := okn_law_form T n
    exact T.F_law_form.ok sc_law_form (len_law_form T (n + 1)) fun cdv A outer s H vs Q E hr h => ⟨t_law_form n w T, (pss_cons (ps_if (pt_cmpR (op_eqX hr.units) (pe_ix ix_tup (pv 0) pe_int (fun _ _ => rfl)) pe_str (nomark _)) (pss_one (ps_ret (pe_call (ok_number T) (hr.mono (by (try simp only [Nat.add_eq]); omega)) (by rfl) T.m_number T.F_number.kp (b_number T) .nil pass0 (pa_cons (pe_ix ix_tup (pv 0) pe_int (fun _ _ => rfl)) pa_nil)))) pss_nil)
      (pss_cons (ps_if (pt_cmpR (op_eqX hr.units) (pe_ix ix_tup (pv 0) pe_int (fun _ _ => rfl)) pe_str (nomark _)) (pss_one (ps_ret (pe_call (ok_letter T) (hr.mono (by (try simp only [Nat.add_eq]); omega)) (by rfl) T.m_letter T.F_letter.kp (b_letter T) .nil pass0 (pa_cons (pe_ix ix_tup (pv 0) pe_int (fun _ _ => rfl)) pa_nil)))) pss_nil)
      (pss_cons (ps_set (i := 1) sc_law_form.nd rfl (Or.inl rfl) (pe_call ih (hr.mono (by (try simp only [Nat.add_eq]); omega)) (by rfl) T.m__law_form T.F_law_form.kp (b_law_form T) .nil pass0 (pa_cons (pe_ix ix_tup (pv 0) pe_int (fun _ _ => rfl)) pa_nil)))
      (pss_cons (ps_if (pt_cmpR (op_eqX hr.units) (pe_ix ix_tup (pv 0) pe_int (fun _ _ => rfl)) pe_str (nomark _)) (pss_one (ps_ret (pe_meth (pv 1) T.c_Form T.M_Form_over (ok_Form_over T) (hr.mono (by (try simp only [Nat.add_eq]); omega)) (b_Form_over T) .nil pass0 (pa_cons (pe_ix ix_tup (pv 0) pe_int (fun _ _ => rfl)) pa_nil)))) pss_nil)
      (pss_cons (ps_set (i := 2) sc_law_form.nd rfl (Or.inl rfl) (pe_call ih (hr.mono (by (try simp only [Nat.add_eq]); omega)) (by rfl) T.m__law_form T.F_law_form.kp (b_law_form T) .nil pass0 (pa_cons (pe_ix ix_tup (pv 0) pe_int (fun _ _ => rfl)) pa_nil)))
      (pss_cons (ps_if (pt_cmpR (op_eqX hr.units) (pe_ix ix_tup (pv 0) pe_int (fun _ _ => rfl)) pe_str (nomark _)) (pss_one (ps_ret (pe_op (op_binO (op := .Mult) rfl T.S_Form T.M_Form___mul (ok_Form___mul T) (hr.mono (by (try simp only [Nat.add_eq]); omega)) (b_Form___mul T) pass0) (pv 1) (pv 2)))) pss_nil)
      (pss_one (ps_ret (pe_ifExp (pt_cmpR (op_eqX hr.units) (pe_ix ix_tup (pv 0) pe_int (fun _ _ => rfl)) pe_str (nomark _)) (pe_op (op_binO (op := .Sub) rfl T.S_Form T.M_Form___sub (ok_Form___sub T) (hr.mono (by (try simp only [Nat.add_eq]); omega)) (b_Form___sub T) pass0) (pv 1) (pv 2)) (pe_op (op_binO (op := .Add) rfl T.S_Form T.M_Form___add (ok_Form___add T) (hr.mono (by (try simp only [Nat.add_eq]); omega)) (b_Form___add T) pass0) (pv 1) (pv 2))))))))))), rd_law_form T n vs H Q E h⟩
def sp_law_form (T : Txt K mg) : Sp := sp_law_form_n 4 T
theorem ok_law_form (T : Txt K mg) : FnOk P w K mg base CX0 12 T.a_law_form T.fd_law_form ["_law_tree_here"] (sp_law_form T) := okn_law_form T 4
end
end CP

namespace CP
open PySem L2
section
variable {P : Program} {w : World} {K : PySem.W.Frag} {mg : Str → Option Value} {base : Heap}
def sp_law_worth_n : Nat → Txt K mg → Sp
  | 0, _ => fun _ _ _ _ => False
  | n + 1, _ => fun vs H Q _ => match vs with
    | [v, .ref d] => ∃ t L kv, TrAt H v t ∧ TrOk L 30 n t ∧ n ≤ 8 ∧ H d = some (.dK (dV kv)) ∧ (∀ w ∈ L, (getD kv w).isSome = true ∧ (atD kv w).natAbs < 2 ^ 69) ∧ ∀ p H', H p = none → Same H H' → H' p = some (.tup [.int (worthM (atD kv) t).1, .int (worthM (atD kv) t).2]) → Q (.ref p) H'
    | _ => False
def t_law_worth (n : Nat) (w : World) (T : Txt K mg) : TS := tSeq (tIfS (tTest (tOp (rEqX K) (tOp (rIxT K) (tVar 0) (tC (.int 0))) (tC (.str "number")))) (tRet (tTup (tCons (tOp (rIxT K) (tVar 0) (tC (.int 1))) (tCons (tC (.int 1)) (tNil))))) (tNext)) (tSeq (tIfS (tTest (tOp (rEqX K) (tOp (rIxT K) (tVar 0) (tC (.int 0))) (tC (.str "letter")))) (tRet (tTup (tCons (tDGet (tVar 1) (tOp (rIxT K) (tVar 0) (tC (.int 1)))) (tCons (tC (.int 1)) (tNil))))) (tNext)) (tSeq (tAsg (tCall (sp_law_worth_n n T) [] E0 (tCons (tOp (rIxT K) (tVar 0) (tC (.int 1))) (tCons (tVar 1) (tNil)))) (gTup K 2 (gCons (gName 2) (gCons (gName 3) gNil)))) (tSeq (tIfS (tTest (tOp (rEqX K) (tOp (rIxT K) (tVar 0) (tC (.int 0))) (tC (.str "divided")))) (tRet (tTup (tCons (tVar 2) (tCons (tOp oMul (tVar 3) (tOp (rIxT K) (tVar 0) (tC (.int 2)))) (tNil))))) (tNext)) (tSeq (tAsg (tCall (sp_law_worth_n n T) [] E0 (tCons (tOp (rIxT K) (tVar 0) (tC (.int 2))) (tCons (tVar 1) (tNil)))) (gTup K 2 (gCons (gName 4) (gCons (gName 5) gNil)))) (tSeq (tIfS (tTest (tOp (rEqX K) (tOp (rIxT K) (tVar 0) (tC (.int 0))) (tC (.str "times")))) (tRet (tTup (tCons (tOp oMul (tVar 2) (tVar 4)) (tCons (tOp oMul (tVar 3) (tVar 5)) (tNil))))) (tNext)) (tSeq (tIfS (tTest (tOp (rEqX K) (tOp (rIxT K) (tVar 0) (tC (.int 0))) (tC (.str "minus")))) (tRet (tTup (tCons (tOp oSub (tOp oMul (tVar 2) (tVar 5)) (tOp oMul (tVar 4) (tVar 3))) (tCons (tOp oMul (tVar 3) (tVar 5)) (tNil))))) (tNext)) (tRet (tTup (tCons (tOp oAdd (tOp oMul (tVar 2) (tVar 5)) (tOp oMul (tVar 4) (tVar 3))) (tCons (tOp oMul (tVar 3) (tVar 5)) (tNil)))))))))))
theorem no_law_worth (T : Txt K mg) (vs : List V) (H : Hp) (Q : VK) (E : XK) : ¬ sp_law_worth_n 0 T vs H Q E := fun h => h
theorem len_law_worth (T : Txt K mg) : ∀ (n : Nat) (vs : List V) (H : Hp) (Q : VK) (E : XK), sp_law_worth_n n T vs H Q E → vs.length = (["_law_tree_here", "_law_values_here"] : List Str).length := by
  intro n vs H Q E h
  cases n with
  | zero => exact (no_law_worth T vs H Q E h).elim
  | succ n =>
    dsimp only [sp_law_worth_n] at h
    split at h
    all_goals first | rfl | exact h.elim
theorem rd_law_worth (T : Txt K mg) (n : Nat) (vs : List V) (H : Hp) (Q : VK) (E : XK) (h : sp_law_worth_n (n + 1) T vs H Q E) : t_law_worth n w T { nx := fun _ H' => Q .non H', rt := Q } (start ["_law_tree_here", "_law_values_here", "_law_first", "_law_under", "_law_second", "_law_lower"] vs) H := by
  match vs, h with
  | [v, .ref d], h =>
  obtain ⟨t, L, kv, ht, hk, hn, hd, hv, q⟩ := h
  have sz : sizeLine = 16777216 := rfl
  unfold t_law_worth
  walk_at "st"
  repeat walk_at "w"
  have vl : ∀ w ∈ L, (atD kv w).natAbs < 2 ^ 69 := fun w hw => (hv w hw).2
  cases t with
  | num i =>
    obtain ⟨a, rfl, ha⟩ := ht
    refine r_ixT (i := 0) (.of ha) (v := .str "number") (by rfl) ?_
    repeat walk_at "w"
    rw [w_nn]
    repeat walk_at "w"
    refine r_ixT (i := 1) (.of ha) (v := .int i) (by rfl) ?_
    repeat walk_at "w"
    rename_i p H1 p0 s1 hp
    exact q p H1 p0 s1 hp
  | «let» w =>
    obtain ⟨a, rfl, ha⟩ := ht
    have hw : w ∈ L := by cases n <;> exact hk
    refine r_ixT (i := 0) (.of ha) (v := .str "letter") (by rfl) ?_
    repeat walk_at "w"
    rw [w_ln]
    repeat walk_at "w"
    refine r_ixT (i := 0) (.of ha) (v := .str "letter") (by rfl) ?_
    repeat walk_at "w"
    rw [w_ll]
    repeat walk_at "w"
    refine r_ixT (i := 1) (.of ha) (v := .str w) (by rfl) ?_
    repeat walk_at "w"
    obtain ⟨g1, g2⟩ := hv w hw
    have e : valV (dV kv) (Sum.inr w) = some (.int (atD kv w)) := by
      rw [dV_val]
      unfold atD
      cases eg : getD kv w with
      | none => rw [eg] at g1; cases g1
      | some z => rfl
    refine ⟨d, .int (atD kv w), rfl, e ▸ DGet.k (k := Sum.inr w) hd, ?_⟩
    repeat walk_at "w"
    rename_i p H1 p0 s1 hp
    exact q p H1 p0 s1 hp
  | div b k =>
    obtain ⟨a, x, rfl, ha, hx⟩ := ht
    refine r_ixT (i := 0) (.of ha) (v := .str "divided") (by rfl) ?_
    repeat walk_at "w"
    rw [w_dn]
    repeat walk_at "w"
    refine r_ixT (i := 0) (.of ha) (v := .str "divided") (by rfl) ?_
    repeat walk_at "w"
    rw [w_dl]
    repeat walk_at "w"
    cases n with
    | zero => exact hk.elim
    | succ n =>
      refine r_ixT (i := 1) (.of ha) (v := x) (by rfl) ?_
      repeat walk_at "w"
      refine ⟨b, L, kv, hx, hk.2.2, by omega, hd, hv, fun o H1 o0 s1 ho => ?_⟩
      have ha1 := CP.Same.to s1 ha
      obtain ⟨l1, l2, l3⟩ := hk.2.2.low (by decide) vl
      have n8 : 2 ^ n ≤ 2 ^ 8 := pow_up (by omega)
      have n1 := one_le_two (n := n)
      repeat walk_at "w"
      refine r_ixT (i := 0) (.of ha1) (v := .str "divided") (by rfl) ?_
      repeat walk_at "w"
      rw [w_dd]
      repeat walk_at "w"
      refine r_ixT (i := 2) (.of ha1) (v := .int k) (by rfl) ?_
      repeat walk_at "w"
      have k1 := hk.1
      have k2 := hk.2.1
      refine r_I (cmulW (b := 4) l3 (by omega) (by omega) (by decide) (by omega)) ?_
      repeat walk_at "w"
      rename_i p H2 p0 s2 hp
      exact q p H2 (L2.Same.free s1 p0) (s1.trans s2) hp
  | op o b c =>
    obtain ⟨a, x, y, rfl, ha, hx, hy⟩ := ht
    refine r_ixT (i := 0) (.of ha) (v := .str o.word) (by rfl) ?_
    repeat walk_at "w"
    rw [o.out.1]
    repeat walk_at "w"
    refine r_ixT (i := 0) (.of ha) (v := .str o.word) (by rfl) ?_
    repeat walk_at "w"
    rw [o.out.2.1]
    repeat walk_at "w"
    cases n with
    | zero => exact hk.elim
    | succ n =>
      refine r_ixT (i := 1) (.of ha) (v := x) (by rfl) ?_
      repeat walk_at "w"
      refine ⟨b, L, kv, hx, hk.1, by omega, hd, hv, fun f H1 f0 s1 hf => ?_⟩
      have ha1 := CP.Same.to s1 ha
      obtain ⟨l1, l2, l3⟩ := hk.1.low (by decide) vl
      obtain ⟨m1, m2, m3⟩ := hk.2.low (by decide) vl
      have n8 : 2 ^ n ≤ 2 ^ 8 := pow_up (by omega)
      have n1 := one_le_two (n := n)
      repeat walk_at "w"
      refine r_ixT (i := 0) (.of ha1) (v := .str o.word) (by rfl) ?_
      repeat walk_at "w"
      rw [o.out.2.2]
      repeat walk_at "w"
      refine r_ixT (i := 2) (.of ha1) (v := y) (by rfl) ?_
      repeat walk_at "w"
      refine ⟨c, L, kv, hy.stay (stay_same s1), hk.2, by omega, CP.Same.to s1 hd, hv, fun g H2 g0 s2 hg => ?_⟩
      have ha2 := CP.Same.to s2 ha1
      have S2 := s1.trans s2
      have fin : ∀ p H3, H2 p = none → Same H2 H3 → H3 p = some (.tup [.int (worthM (atD kv) (.op o b c)).1, .int (worthM (atD kv) (.op o b c)).2]) → Q (.ref p) H3 := fun p H3 p0 s3 hp => q p H3 (L2.Same.free S2 p0) (S2.trans s3) hp
      have w1 := cmulW l1 m3 (by omega) (by omega) (by omega)
      have w2 := cmulW m1 l3 (by omega) (by omega) (by omega)
      have w3 := cmulW l3 m3 (by omega) (by omega) (by omega)
      have w4 := cmulW l1 m1 (by omega) (by omega) (by omega)
      repeat walk_at "w"
      refine r_ixT (i := 0) (.of ha2) (v := .str o.word) (by rfl) ?_
      repeat walk_at "w"
      cases o with
      | times =>
        rw [Ow.is .times |>.1]
        repeat walk_at "w"
        rename_i p H3 p0 s3 hp
        exact fin p H3 p0 s3 hp
      | minus =>
        rw [Ow.is .minus |>.1]
        repeat walk_at "w"
        refine r_ixT (i := 0) (.of ha2) (v := .str Ow.minus.word) (by rfl) ?_
        repeat walk_at "w"
        rw [Ow.is .minus |>.2]
        repeat walk_at "w"
        rename_i p H3 p0 s3 hp
        exact fin p H3 p0 s3 hp
      | plus =>
        rw [Ow.is .plus |>.1]
        repeat walk_at "w"
        refine r_ixT (i := 0) (.of ha2) (v := .str Ow.plus.word) (by rfl) ?_
        repeat walk_at "w"
        rw [Ow.is .plus |>.2]
        repeat walk_at "w"
        rename_i p H3 p0 s3 hp
        exact fin p H3 p0 s3 hp

theorem okn_law_worth (T : Txt K mg) : ∀ n : Nat, FnOk P w K mg base CX0 (0 + n) T.a_law_worth T.fd_law_worth ["_law_tree_here", "_law_values_here"] (sp_law_worth_n n T)
  | 0 => ⟨fun vs H Q E h => absurd h (no_law_worth T vs H Q E), fun A outer s H args us vs Q E _ _ _ _ h => absurd h (no_law_worth T vs H Q E)⟩
  | n + 1 => by
    have ih := okn_law_worth T n
    exact T.F_law_worth.ok sc_law_worth (len_law_worth T (n + 1)) fun cdv A outer s H vs Q E hr h => ⟨t_law_worth n w T, (pss_cons (ps_if (pt_cmpR (op_eqX hr.units) (pe_ix ix_tup (pv 0) pe_int (fun _ _ => rfl)) pe_str (nomark _)) (pss_one (ps_ret (pe_tup (pa_cons (pe_ix ix_tup (pv 0) pe_int (fun _ _ => rfl)) (pa_cons pe_int pa_nil))))) pss_nil)
      (pss_cons (ps_if (pt_cmpR (op_eqX hr.units) (pe_ix ix_tup (pv 0) pe_int (fun _ _ => rfl)) pe_str (nomark _)) (pss_one (ps_ret (pe_tup (pa_cons (pe_dget (hu_of hr) (pv 1) (pe_ix ix_tup (pv 0) pe_int (fun _ _ => rfl)) (fun _ _ => rfl)) (pa_cons pe_int pa_nil))))) pss_nil)
      (pss_cons (ps_asg (pe_call ih (hr.mono (by (try simp only [Nat.add_eq]); omega)) (by rfl) T.m__law_worth T.F_law_worth.kp (b_law_worth T) .nil pass0 (pa_cons (pe_ix ix_tup (pv 0) pe_int (fun _ _ => rfl)) (pa_cons (pv 1) pa_nil))) (pg_tup rfl (pgs_cons (pg_name (i := 2) sc_law_worth.nd rfl (Or.inl rfl)) (pgs_cons (pg_name (i := 3) sc_law_worth.nd rfl (Or.inl rfl)) pgs_nil))))
      (pss_cons (ps_if (pt_cmpR (op_eqX hr.units) (pe_ix ix_tup (pv 0) pe_int (fun _ _ => rfl)) pe_str (nomark _)) (pss_one (ps_ret (pe_tup (pa_cons (pv 2) (pa_cons (pe_op op_mulW (pv 3) (pe_ix ix_tup (pv 0) pe_int (fun _ _ => rfl))) pa_nil))))) pss_nil)
      (pss_cons (ps_asg (pe_call ih (hr.mono (by (try simp only [Nat.add_eq]); omega)) (by rfl) T.m__law_worth T.F_law_worth.kp (b_law_worth T) .nil pass0 (pa_cons (pe_ix ix_tup (pv 0) pe_int (fun _ _ => rfl)) (pa_cons (pv 1) pa_nil))) (pg_tup rfl (pgs_cons (pg_name (i := 4) sc_law_worth.nd rfl (Or.inl rfl)) (pgs_cons (pg_name (i := 5) sc_law_worth.nd rfl (Or.inl rfl)) pgs_nil))))
      (pss_cons (ps_if (pt_cmpR (op_eqX hr.units) (pe_ix ix_tup (pv 0) pe_int (fun _ _ => rfl)) pe_str (nomark _)) (pss_one (ps_ret (pe_tup (pa_cons (pe_op op_mulW (pv 2) (pv 4)) (pa_cons (pe_op op_mulW (pv 3) (pv 5)) pa_nil))))) pss_nil)
      (pss_cons (ps_if (pt_cmpR (op_eqX hr.units) (pe_ix ix_tup (pv 0) pe_int (fun _ _ => rfl)) pe_str (nomark _)) (pss_one (ps_ret (pe_tup (pa_cons (pe_op op_sub (pe_op op_mulW (pv 2) (pv 5)) (pe_op op_mulW (pv 4) (pv 3))) (pa_cons (pe_op op_mulW (pv 3) (pv 5)) pa_nil))))) pss_nil)
      (pss_one (ps_ret (pe_tup (pa_cons (pe_op op_add (pe_op op_mulW (pv 2) (pv 5)) (pe_op op_mulW (pv 4) (pv 3))) (pa_cons (pe_op op_mulW (pv 3) (pv 5)) pa_nil)))))))))))), rd_law_worth T n vs H Q E h⟩
def sp_law_worth (T : Txt K mg) : Sp := sp_law_worth_n 8 T
theorem ok_law_worth (T : Txt K mg) : FnOk P w K mg base CX0 8 T.a_law_worth T.fd_law_worth ["_law_tree_here", "_law_values_here"] (sp_law_worth T) := okn_law_worth T 8
end
end CP

namespace CP
open PySem L2
section
variable {P : Program} {w : World} {K : PySem.W.Frag} {mg : Str → Option Value} {base : Heap}
def sp_law_whole_at (_ : Txt K mg) : Sp := fun vs H Q _ => match vs with
  | [v, .ref d] => ∃ t L kv, TrAt H v t ∧ TrOk L 30 7 t ∧ H d = some (.dK (dV kv)) ∧ (∀ w ∈ L, (getD kv w).isSome = true ∧ (atD kv w).natAbs < 2 ^ 69) ∧ ∀ H', Same H H' → Q (wholeV (worthM (atD kv) t).1 (worthM (atD kv) t).2) H'
  | _ => False
def t_law_whole_at (w : World) (T : Txt K mg) : TS := tSeq (tAsg (tCall (sp_law_worth T) [] E0 (tCons (tVar 0) (tCons (tVar 1) (tNil)))) (gTup K 2 (gCons (gName 2) (gCons (gName 3) gNil)))) (tRet (tIf (tTest (tOp rEq (tOp oMod (tVar 2) (tVar 3)) (tC (.int 0)))) (tOp oDiv (tVar 2) (tVar 3)) (tC .non)))
theorem len_law_whole_at (T : Txt K mg) : ∀ (vs : List V) (H : Hp) (Q : VK) (E : XK), sp_law_whole_at T vs H Q E → vs.length = (["_law_tree_here", "_law_values_here"] : List Str).length := by
  intro vs H Q E h
  unfold sp_law_whole_at at h
  split at h
  all_goals first | rfl | exact h.elim
theorem rd_law_whole_at (T : Txt K mg) (vs : List V) (H : Hp) (Q : VK) (E : XK) (h : sp_law_whole_at T vs H Q E) : t_law_whole_at w T { nx := fun _ H' => Q .non H', rt := Q } (start ["_law_tree_here", "_law_values_here", "_law_above", "_law_under"] vs) H := by
  match vs, h with
  | [v, .ref d], h =>
  obtain ⟨t, L, kv, ht, hk, hd, hv, q⟩ := h
  have sz : sizeLine = 16777216 := rfl
  obtain ⟨l1, l2, l3⟩ := hk.low (v := atD kv) (by decide) fun w hw => (hv w hw).2
  unfold t_law_whole_at
  walk_at "st"
  repeat walk_at "w"
  refine ⟨t, L, kv, ht, hk, by decide, hd, hv, fun p H1 p0 s1 hp => ?_⟩
  repeat walk_at "w"
  unfold wholeV at q
  refine if_d (fun k => ?_) fun k => ?_
  · rw [if_pos k] at q
    repeat walk_at "w"
    refine r_I (wide_div (b := 512) l2 l3 (by decide) (by decide)) ?_
    exact q H1 s1
  · rw [if_neg k] at q
    repeat walk_at "w"
    exact q H1 s1

theorem ok_law_whole_at (T : Txt K mg) : FnOk P w K mg base CX0 9 T.a_law_whole_at T.fd_law_whole_at ["_law_tree_here", "_law_values_here"] (sp_law_whole_at T) :=
  T.F_law_whole_at.ok sc_law_whole_at (len_law_whole_at T) fun cdv A outer s H vs Q E hr h => ⟨t_law_whole_at w T, (pss_cons (ps_asg (pe_call (ok_law_worth T) (hr.mono (by decide)) (by rfl) T.m__law_worth T.F_law_worth.kp (b_law_worth T) .nil pass0 (pa_cons (pv 0) (pa_cons (pv 1) pa_nil))) (pg_tup rfl (pgs_cons (pg_name (i := 2) sc_law_whole_at.nd rfl (Or.inl rfl)) (pgs_cons (pg_name (i := 3) sc_law_whole_at.nd rfl (Or.inl rfl)) pgs_nil))))
      (pss_one (ps_ret (pe_ifExp (pt_cmpR op_eq (pe_op op_mod (pv 2) (pv 3)) pe_int (nomark _)) (pe_op op_fdivW (pv 2) (pv 3)) pe_non)))), rd_law_whole_at T vs H Q E h⟩
end
end CP

namespace CP
open PySem L2
section
variable {P : Program} {w : World} {K : PySem.W.Frag} {mg : Str → Option Value} {base : Heap}
/-- drawn letters -/
def LetD (w : Str) : Prop := letB w = true ∧ w ≠ "other" ∧ w ≠ "absent"
def fixW : List Str := ["n", "m", "k", "i", "j", "size", "abcdefghij", "z", "row", "width", "column"]
theorem other5 : ("other" : Str).cps.toList.length = 5 := by decide +kernel
theorem absent6 : ("absent" : Str).cps.toList.length = 6 := by decide +kernel
theorem fixW_let : ∀ w ∈ fixW, letB w = true ∧ w ≠ "other" ∧ w ≠ "absent" := by decide +kernel
theorem fixW_nd : fixW.Nodup := by decide +kernel
def sp_law_names (_ : Txt K mg) : Sp := fun vs H Q _ => match vs with
  | [.ref p, .int m] => ∃ c, Pu H p c ∧ c < 2 ^ 57 ∧ 0 ≤ m ∧ m ≤ 8 ∧ ∀ q l H', l.Nodup → (∀ w ∈ l, LetD w) → (l.length : Int) = m → H q = none → SB p H H' → H' q = some (.lst (strL l)) → Pu H' p (c + 5000) → Q (.ref q) H'
  | _ => False
def t_law_names (w : World) (T : Txt K mg) : TS := tSeq (tAsg (tLst (tNil)) (gName 2)) (tSeq (tFor (iRng1 (tCons (tVar 1) (tNil))) (gName 3) (tSeq (tAsg (tC (.str "")) (gName 4)) (tSeq (tFor (iRng1 (tCons (tOp oAdd (tC (.int 1)) (tCall (sp_law_draw T) [] E0 (tCons (tVar 0) (tCons (tC (.int 3)) (tNil))))) (tNil))) (gName 5) (tAsg (tOp rAddSt (tVar 4) (tOp rIxS (tC (.str "abcdefghijklmnopqrstuvwxyz")) (tCall (sp_law_draw T) [] E0 (tCons (tVar 0) (tCons (tC (.int 26)) (tNil)))))) (gName 4))) (tSeq (tAsg (tLst (tCons (tC (.str "n")) (tCons (tC (.str "m")) (tCons (tC (.str "k")) (tCons (tC (.str "i")) (tCons (tC (.str "j")) (tCons (tC (.str "size")) (tCons (tC (.str "abcdefghij")) (tCons (tC (.str "z")) (tCons (tC (.str "row")) (tCons (tC (.str "width")) (tCons (tC (.str "column")) (tCons (tVar 4) (tCons (tVar 4) (tCons (tVar 4) (tNil)))))))))))))))) (gName 6)) (tDrop (tBM K "list" rAppend (tVar 2) (tCons (tCall (sp_law_one_of T) [] E0 (tCons (tVar 0) (tCons (tLc (iList K (tVar 6)) (gName 7) (tTest (tOp (rIn K true) (tVar 7) (tVar 2))) (tVar 7) [7]) (tNil)))) (tNil)))))))) (tRet (tVar 2)))
theorem len_law_names (T : Txt K mg) : ∀ (vs : List V) (H : Hp) (Q : VK) (E : XK), sp_law_names T vs H Q E → vs.length = (["_law_purse_here", "_law_many"] : List Str).length := by
  intro vs H Q E h
  unfold sp_law_names at h
  split at h
  all_goals first | rfl | exact h.elim
theorem rd_law_names (T : Txt K mg) (vs : List V) (H : Hp) (Q : VK) (E : XK) (h : sp_law_names T vs H Q E) : t_law_names w T { nx := fun _ H' => Q .non H', rt := Q } (start ["_law_purse_here", "_law_many", "_law_found", "_law_turn", "_law_word", "_law_spot", "_law_some", "_law_name"] vs) H := by
  match vs, h with
  | [.ref p, .int m], h =>
  obtain ⟨c, hp, hz, m0, m1, q⟩ := h
  have sz : sizeLine = 16777216 := rfl
  unfold t_law_names
  walk_at "st"
  repeat walk_at "w"
  rename_i f H0 f0 s0 hf
  have fp : f ≠ p := hp.ne f0
  refine for_range (fun i σ H' => SB p H H' ∧ (∃ l, H' f = some (.lst (strL l)) ∧ l.length = i ∧ l.Nodup ∧ ∀ w ∈ l, LetD w) ∧ Pu H' p (c + 400 * i) ∧ ∃ x3 x4 x5 x6 x7, σ = [some (.ref p), some (.int m), some (.ref f), x3, x4, x5, x6, x7]) ⟨Same.sb' s0, ⟨[], hf, rfl, .nil, by simp⟩, (hp.mono s0).up (by omega), _, _, _, _, _, rfl⟩ ?_ ?_
  · rintro i σ H1 hi ⟨b1, ⟨l, hl, ll, nd, hw⟩, hp1, x3, x4, x5, x6, x7, rfl⟩
    have i8 : i < 8 := by omega
    repeat walk_at "w"
    refine ⟨_, hp1, by omega, by decide, by decide, fun d H2 d0 d1 b2 hp2 => ?_⟩
    have hl2 := b2 _ _ fp hl
    repeat walk_at "w"
    refine for_range (fun j σ H' => SB p H2 H' ∧ Pu H' p (c + 400 * i + 60 + 60 * j) ∧ ∃ z x5, Wd j j z ∧ σ = [some (.ref p), some (.int m), some (.ref f), some (.int (0 + (i : Int))), some (.str z), x5, x6, x7]) ⟨fun _ _ _ z => z, hp2.up (by omega), "", _, ⟨by decide, by decide, by decide⟩, rfl⟩ ?_ ?_
    · rintro j σ H3 hj ⟨b3, hp3, z, x5, hz3, rfl⟩
      have zl : z.length = z.cps.toList.length := by show z.cps.size = _; simp
      have z2 := hz3.2.1
      repeat walk_at "w"
      refine ⟨_, hp3, by omega, by decide, by decide, fun e H4 e0 e1 b4 hp4 => ?_⟩
      obtain ⟨ch, a1, a2⟩ := small_at e0 e1
      refine r_ixSS (by decide) a1 ?_
      refine r_addSt (by show z.length + 1 ≤ _; omega) ?_
      repeat walk_at "w"
      exact ⟨SB.trans' b3 b4, hp4.up (by omega), _, _, hz3.add a2, rfl⟩
    · rintro σ H3 ⟨b3, hp3, z, x5, hz3, rfl⟩
      have jn : (1 + d).toNat ≤ 3 ∧ 1 ≤ (1 + d).toNat := by omega
      generalize (1 + d).toNat = j at *
      have hl3 := b3 _ _ fp hl2
      repeat walk_at "w"
      rename_i sm H4 sm0 s4 hsm
      have hsm : H4 sm = some (.lst (strL (fixW ++ [z, z, z]))) := hsm
      have hl4 := CP.Same.to s4 hl3
      refine ⟨.inl ⟨rfl, _, .of hl4⟩, ?_⟩
      repeat walk_at "w"
      refine ⟨sm, rfl, ⟨_, .of hsm⟩, fun D hD => lc_strF (fun y => !decide (y ∈ l)) hD (.of hsm) (by rw [List.length_append]; show 11 + 3 < sizeLine; decide) (fun k y H5 hy s5 N no yes => ?_) fun H5 s5 hacc => ?_⟩
      · repeat walk_at "w"
        refine ⟨rfl, ?_⟩
        repeat walk_at "w"
        refine r_niStr (.of (CP.Same.to s5 hl4)) ?_
        repeat walk_at "w"
        dsimp only at no yes
        cases e : decide (y ∈ l) with
        | true => rw [e] at no; exact if_nf (no _ rfl (Same.refl _))
        | false =>
          rw [e] at yes
          refine if_nt ?_
          repeat walk_at "w"
          exact yes _ _ _ rfl (Same.refl _) rfl
      have S5 := s4.trans s5
      have hp5 := hp3.mono S5
      have Dp : D ≠ p := (hp3.mono s4).ne hD
      have zd : LetD z := ⟨hz3.let jn.2 (by omega), (hz3.ne (by rw [other5]; omega)), (hz3.ne (by rw [absent6]; omega))⟩
      have all : ∀ w ∈ fixW ++ [z, z, z], LetD w := fun w hw => by
        rcases List.mem_append.mp hw with k | k
        · exact fixW_let w k
        · have : w = z := by simpa using k
          rw [this]; exact zd
      have fl := List.length_filter_le (fun y => !decide (y ∈ l)) (fixW ++ [z, z, z])
      rw [List.length_append, show fixW.length = 11 from rfl, show [z, z, z].length = 3 from rfl] at fl
      have fp0 : 0 < ((fixW ++ [z, z, z]).filter fun y => !decide (y ∈ l)).length := by
        refine Nat.pos_of_ne_zero fun e => ?_
        have e := List.eq_nil_of_length_eq_zero e
        have sub : ∀ w ∈ fixW, w ∈ l := fun w hw => by
          refine Classical.byContradiction fun n => ?_
          have : w ∈ ((fixW ++ [z, z, z]).filter fun y => !decide (y ∈ l)) := List.mem_filter.mpr ⟨List.mem_append_left _ hw, by rw [decide_eq_false n]; rfl⟩
          rw [e] at this
          cases this
        have := fixW_nd.length_le_of_subset sub
        have : fixW.length = 11 := rfl
        omega
      repeat walk_at "w"
      refine ⟨_, _, hp5, by omega, hacc, Dp, by rw [strL_len]; omega, by rw [strL_len]; omega, fun v H6 hv b6 hp6 => ?_⟩
      obtain ⟨y, hy, rfl⟩ := List.mem_map.mp hv
      obtain ⟨hy1, hy2⟩ := List.mem_filter.mp hy
      have hy2 : y ∉ l := by simpa using hy2
      have hl6 := b6 _ _ fp (CP.Same.to s5 hl4)
      repeat walk_at "w"
      refine r_app hl6 (by rw [strL_len]; omega) fun H7 b7 hf7 => ?_
      have B7 : SB p H H6 := SB.trans' b1 (SB.trans' b2 (SB.trans' b3 (SB.trans' (Same.sb' S5) b6)))
      refine ⟨SB.fresh B7 f0 b7, ⟨l ++ [y], by rw [strL_app]; exact hf7, by rw [List.length_append]; simp [ll], ?_, fun w hw' => ?_⟩, (hp6.sb b7 fp.symm).up (by omega), _, _, _, _, _, rfl⟩
      · rw [List.nodup_append]
        exact ⟨nd, by simp, fun a ha b hb => by rw [List.mem_singleton.mp hb]; exact fun e => hy2 (e ▸ ha)⟩
      · rcases List.mem_append.mp hw' with k | k
        · exact hw w k
        · rw [List.mem_singleton.mp k]; exact all y hy1
  · rintro σ H1 ⟨b1, ⟨l, hl, ll, nd, hw⟩, hp1, x3, x4, x5, x6, x7, rfl⟩
    repeat walk_at "w"
    exact q f l H1 nd hw (by omega) f0 b1 hl (hp1.up (by omega))

theorem ok_law_names (T : Txt K mg) : FnOk P w K mg base CX0 4 T.a_law_names T.fd_law_names ["_law_purse_here", "_law_many"] (sp_law_names T) :=
  T.F_law_names.ok sc_law_names (len_law_names T) fun cdv A outer s H vs Q E hr h => ⟨t_law_names w T, (pss_cons (ps_set (i := 2) sc_law_names.nd rfl (Or.inr rfl) (pe_lst pa_nil))
      (pss_cons (ps_for PassesOwn.never rfl (pi_range1 (by rfl) T.n_range (pa_cons (pv 1) pa_nil)) (pg_name (i := 3) sc_law_names.nd rfl (Or.inl rfl)) (pss_cons (ps_set (i := 4) sc_law_names.nd rfl (Or.inl rfl) pe_str)
      (pss_cons (ps_for PassesOwn.never rfl (pi_range1 (by rfl) T.n_range (pa_cons (pe_op op_add pe_int (pe_call (ok_law_draw T) (hr.mono (by decide)) (by rfl) T.m__law_draw T.F_law_draw.kp (b_law_draw T) .nil pass0 (pa_cons (pv 0) (pa_cons pe_int pa_nil)))) pa_nil)) (pg_name (i := 5) sc_law_names.nd rfl (Or.inl rfl)) (pss_one (ps_set (i := 4) sc_law_names.nd rfl (Or.inl rfl) (pe_op op_addS (pv 4) (pe_ix ix_str pe_str (pe_call (ok_law_draw T) (hr.mono (by decide)) (by rfl) T.m__law_draw T.F_law_draw.kp (b_law_draw T) .nil pass0 (pa_cons (pv 0) (pa_cons pe_int pa_nil))) (fun _ _ => rfl))))))
      (pss_cons (ps_set (i := 6) sc_law_names.nd rfl (Or.inl rfl) (pe_lst (pa_cons pe_str (pa_cons pe_str (pa_cons pe_str (pa_cons pe_str (pa_cons pe_str (pa_cons pe_str (pa_cons pe_str (pa_cons pe_str (pa_cons pe_str (pa_cons pe_str (pa_cons pe_str (pa_cons (pv 4) (pa_cons (pv 4) (pa_cons (pv 4) pa_nil))))))))))))))))
      (pss_one (ps_expr (pe_bm PySem.F.plainAttrs_list PySem.F.slot_list_append PySem.F.type_list_append mt_append (pv 2) (pa_cons (pe_call (ok_law_one_of T) (hr.mono (by decide)) (by rfl) T.m__law_one_of T.F_law_one_of.kp (b_law_one_of T) .nil pass0 (pa_cons (pv 0) (pa_cons (pe_lc (own := [("_law_name", 7)]) (g := (gName 7)) (tt := tTest (tOp (rIn K true) (tVar 7) (tVar 2))) (te := tVar 7) rfl sc_law_names.nd (pi_list (pv 6)) (blkOk_by (own := [("_law_name", 7)]) (N := ["_law_purse_here", "_law_many", "_law_found", "_law_turn", "_law_word", "_law_spot", "_law_some", "_law_name"]) (sc := defScope s_law_names) (by decide +kernel)) (fun _ _ _ _ _ => (pg_name (i := 7) sc_law_names.nd rfl (Or.inl rfl))) (fun _ _ _ _ _ => (pts_one (pt_cmpR op_notIn_seq (pv 7) (pv 2) (by rfl)))) (fun _ _ _ _ _ => (pv 7))) pa_nil))) pa_nil))))))))
      (pss_one (ps_ret (pv 2))))), rd_law_names T vs H Q E h⟩
end
end CP

namespace CP
open PySem L2
section
variable {P : Program} {w : World} {K : PySem.W.Frag} {mg : Str → Option Value} {base : Heap}
def sp_law_values (_ : Txt K mg) : Sp := fun vs H Q _ => match vs with
  | [.ref p, .ref a] => ∃ c l, Pu H p c ∧ c < 2 ^ 57 ∧ H a = some (.lst (strL l)) ∧ a ≠ p ∧ l.length ≤ 9 ∧ l.Nodup ∧ ∀ d kv H', kv.map (·.1) = l → (∀ u ∈ kv, u.2.natAbs < 2 ^ 67) → H d = none → SB p H H' → H' d = some (.dK (dV kv)) → Pu H' p (c + 2000) → Q (.ref d) H'
  | _ => False
def t_law_values (w : World) (T : Txt K mg) : TS := tSeq (tAsg (tDNewK) (gName 2)) (tSeq (tFor (iList K (tVar 1)) (gName 3) (tSeq (tAsg (tOp oSub (tCall (sp_law_draw T) [] E0 (tCons (tVar 0) (tCons (tOp oPow (tC (.int 10)) (tC (.int 20))) (tNil)))) (tOp oPow (tC (.int 10)) (tC (.int 19)))) (gName 4)) (sDPut (tVar 2) (tVar 3) (tOp (rIxL K) (tLst (tCons (tC (.int 0)) (tCons (tC (.int 1)) (tCons (tC (.int 2)) (tCons (tC (.int 3)) (tCons (tOp oSub (tC (.int 0)) (tC (.int 1))) (tCons (tCall (sp_law_draw T) [] E0 (tCons (tVar 0) (tCons (tC (.int 99)) (tNil)))) (tCons (tVar 4) (tNil))))))))) (tCall (sp_law_draw T) [] E0 (tCons (tVar 0) (tCons (tC (.int 7)) (tNil)))))))) (tRet (tVar 2)))
theorem len_law_values (T : Txt K mg) : ∀ (vs : List V) (H : Hp) (Q : VK) (E : XK), sp_law_values T vs H Q E → vs.length = (["_law_purse_here", "_law_names_here"] : List Str).length := by
  intro vs H Q E h
  unfold sp_law_values at h
  split at h
  all_goals first | rfl | exact h.elim
theorem rd_law_values (T : Txt K mg) (vs : List V) (H : Hp) (Q : VK) (E : XK) (h : sp_law_values T vs H Q E) : t_law_values w T { nx := fun _ H' => Q .non H', rt := Q } (start ["_law_purse_here", "_law_names_here", "_law_found", "_law_name", "_law_far"] vs) H := by
  match vs, h with
  | [.ref p, .ref a], h =>
  obtain ⟨c, l, hp, hz, ha, ap, hl, nd, q⟩ := h
  have sz : sizeLine = 16777216 := rfl
  unfold t_law_values
  walk_at "st"
  repeat walk_at "w"
  rename_i d H1 d0 s1 hd
  have pd : p ≠ d := (hp.ne d0).symm
  have hp1 := hp.mono s1
  have da : a ≠ d := ne_of_none ha d0
  have ha1 := CP.Same.to s1 ha
  refine ⟨a, rfl, ⟨_, .of ha1⟩, for_list (K := K) (a := a) (xs := strL l) (fun i σ H' => SB p H H' ∧ (∃ kv, Pu H' p (c + 200 * i) ∧ H' d = some (.dK (dV kv)) ∧ kv.map (·.1) = l.take i ∧ (∀ u ∈ kv, u.2.natAbs < 2 ^ 67)) ∧ ∃ x3 x4, σ = [some (.ref p), some (.ref a), some (.ref d), x3, x4]) ⟨Same.sb' s1, ⟨[], hp1.up (by omega), hd, rfl, by simp⟩, _, _, rfl⟩ (fun _ _ _ _ w => .of (w.1 _ _ ap ha)) ?_ ?_⟩
  · rintro i v σ H4 hx ⟨b4, ⟨kv, hp4, hk, en, hv⟩, x3, x4, rfl⟩
    obtain ⟨w, hw, rfl⟩ := strL_get hx
    have il : i < l.length := (List.getElem?_eq_some_iff.mp hw).1
    have kn : (kv.map (·.1)).Nodup := by rw [en]; exact nd.sublist (List.take_sublist ..)
    have wn : w ∉ kv.map (·.1) := by
      rw [en]
      intro hm
      have := nd
      rw [← List.take_append_drop (i + 1) l, take_succ hw] at this
      exact (List.nodup_append.mp (List.nodup_append.mp this).1).2.2 w hm w (List.mem_singleton.mpr rfl) rfl
    have kl : kv.length = i := by
      have := congrArg List.length en
      rw [List.length_map, List.length_take] at this
      omega
    repeat walk_at "w"
    refine r_I ⟨by decide, by decide, by decide +kernel⟩ ?_
    rw [show ((10 : Int) ^ (20 : Int).toNat) = 100000000000000000000 by decide +kernel]
    repeat walk_at "w"
    refine ⟨_, hp4, by omega, by decide, by decide, fun f H5 f0 f1 b5 hp5 => ?_⟩
    repeat walk_at "w"
    refine r_I ⟨by decide, by decide, by decide +kernel⟩ ?_
    rw [show ((10 : Int) ^ (19 : Int).toNat) = 10000000000000000000 by decide +kernel]
    repeat walk_at "w"
    refine ⟨_, hp5, by omega, by decide, by decide, fun g H6 g0 g1 b6 hp6 => ?_⟩
    repeat walk_at "w"
    rename_i t H7 t0 s7 ht
    have hp7 := hp6.mono s7
    have tp := hp6.ne t0
    refine ⟨_, hp7, by omega, by decide, by decide, fun e H8 e0 e1 b8 hp8 => ?_⟩
    obtain ⟨j, rfl⟩ := Int.eq_ofNat_of_zero_le e0
    obtain ⟨z, hz', zb⟩ : ∃ z : Int, ([.int 0, .int 1, .int 2, .int 3, .int (0 - 1), .int g, .int (f - 10000000000000000000)] : List V)[j]? = some (.int z) ∧ z.natAbs < 2 ^ 67 := by
      have : j = 0 ∨ j = 1 ∨ j = 2 ∨ j = 3 ∨ j = 4 ∨ j = 5 ∨ j = 6 := by omega
      rcases this with rfl | rfl | rfl | rfl | rfl | rfl | rfl
      · exact ⟨0, rfl, by decide⟩
      · exact ⟨1, rfl, by decide⟩
      · exact ⟨2, rfl, by decide⟩
      · exact ⟨3, rfl, by decide⟩
      · exact ⟨0 - 1, rfl, by decide⟩
      · exact ⟨g, rfl, by omega⟩
      · exact ⟨_, rfl, by omega⟩
    refine r_ixL (.of (b8 _ _ tp ht)) (v := .int z) (atI_nat hz') ?_
    have B8 := SB.trans' (SB.trans' b5 b6) (SB.trans' (Same.sb' s7) b8)
    have hk8 := B8 _ _ pd.symm hk
    repeat walk_at "w"
    refine r_dputS hk8 (by unfold dV; rw [List.length_map]; omega) fun H9 b9 h9 => ?_
    rw [dV_put _ _ _ kn, setD_new wn] at h9
    refine ⟨SB.fresh (SB.trans' b4 B8) d0 b9, ⟨_, (hp8.sb b9 pd).up (by omega), h9, by rw [List.map_append, en, take_succ hw]; rfl, fun u hu => ?_⟩, _, _, rfl⟩
    rcases List.mem_append.mp hu with k | k
    · exact hv u k
    · rw [List.mem_singleton.mp k]
      exact zb
  · rintro σ H4 ⟨b4, ⟨kv, hp4, hk, en, hv⟩, x3, x4, rfl⟩
    rw [strL_len, List.take_length] at en
    rw [strL_len] at hp4
    repeat walk_at "w"
    exact q d kv H4 en hv d0 b4 hk (hp4.up (by omega))

theorem ok_law_values (T : Txt K mg) : FnOk P w K mg base CX0 3 T.a_law_values T.fd_law_values ["_law_purse_here", "_law_names_here"] (sp_law_values T) :=
  T.F_law_values.ok sc_law_values (len_law_values T) fun cdv A outer s H vs Q E hr h => ⟨t_law_values w T, (pss_cons (ps_set (i := 2) sc_law_values.nd rfl (Or.inl rfl) pe_dnewK)
      (pss_cons (ps_for PassesOwn.never rfl (pi_list (pv 1)) (pg_name (i := 3) sc_law_values.nd rfl (Or.inl rfl)) (pss_cons (ps_set (i := 4) sc_law_values.nd rfl (Or.inl rfl) (pe_op op_sub (pe_call (ok_law_draw T) (hr.mono (by decide)) (by rfl) T.m__law_draw T.F_law_draw.kp (b_law_draw T) .nil pass0 (pa_cons (pv 0) (pa_cons (pe_op op_powW pe_int pe_int) pa_nil))) (pe_op op_powW pe_int pe_int)))
      (pss_one (ps_dput (hu_of hr) (pv 2) (pv 3) (pe_ix ix_list (pe_lst (pa_cons pe_int (pa_cons pe_int (pa_cons pe_int (pa_cons pe_int (pa_cons (pe_op op_sub pe_int pe_int) (pa_cons (pe_call (ok_law_draw T) (hr.mono (by decide)) (by rfl) T.m__law_draw T.F_law_draw.kp (b_law_draw T) .nil pass0 (pa_cons (pv 0) (pa_cons pe_int pa_nil))) (pa_cons (pv 4) pa_nil)))))))) (pe_call (ok_law_draw T) (hr.mono (by decide)) (by rfl) T.m__law_draw T.F_law_draw.kp (b_law_draw T) .nil pass0 (pa_cons (pv 0) (pa_cons pe_int pa_nil))) (fun _ _ => rfl)) rfl))))
      (pss_one (ps_ret (pv 2))))), rd_law_values T vs H Q E h⟩
end
end CP

namespace CP
open PySem L2
section
variable {P : Program} {w : World} {K : PySem.W.Frag} {mg : Str → Option Value} {base : Heap}
theorem form_pu {C p : Addr} {H H' : Hp} {c : Int} (hp : Pu H p c) (s : SB p H H') {o : Addr} {f : Fm} (h : FormAt C H o f) : FormAt C H' o f := by
  obtain ⟨x, y, z, i, e, _⟩ := hp
  obtain ⟨dx, d, ho, hd⟩ := h
  exact ⟨dx, d, s _ _ (fun k => by rw [k, e] at ho; cases ho) ho, s _ _ (fun k => by rw [k, e] at hd; cases hd) hd⟩
theorem tree_pu {p : Addr} {H H' : Hp} {c : Int} (hp : Pu H p c) (s : SB p H H') {v : V} {t : Tr} (h : TrAt H v t) : TrAt H' v t := by
  obtain ⟨x, y, z, i, e, _⟩ := hp
  exact h.stay (stay_sb e s)
/-- values for drawn letters -/
structure Vals2 (l : List Str) (kv : List (Str × Int)) : Prop where
  keys : kv.map (·.1) = l ++ [("other" : Str)]
  nd : (l ++ [("other" : Str)]).Nodup
  low : ∀ u ∈ kv, u.2.natAbs < 2 ^ 67
  few : l.length ≤ 8
  lets : ∀ w ∈ l, LetD w
theorem Vals2.has {l : List Str} {kv : List (Str × Int)} (h : Vals2 l kv) : ∀ w ∈ l, (getD kv w).isSome = true ∧ (atD kv w).natAbs < 2 ^ 67 := fun w hw => by
  have hm : w ∈ kv.map (·.1) := by rw [h.keys]; exact List.mem_append_left _ hw
  obtain ⟨u, hu, rfl⟩ := List.mem_map.mp hm
  have g := getD_mem (by rw [h.keys]; exact h.nd) hu
  unfold atD
  rw [g]
  exact ⟨rfl, h.low u hu⟩
theorem Vals2.let {l : List Str} {kv : List (Str × Int)} (h : Vals2 l kv) : ∀ u ∈ kv, letB u.1 = true := fun u hu => by
  have hm : u.1 ∈ kv.map (·.1) := List.mem_map_of_mem hu
  rw [h.keys] at hm
  rcases List.mem_append.mp hm with k | k
  · exact (h.lets _ k).1
  · rw [List.mem_singleton.mp k]; decide +kernel
theorem at_ask {T : Txt K mg} {H : Hp} {o d : Addr} {f : Fm} {l : List Str} {kv : List (Str × Int)} {t e b g : Nat} {a w : Int} {Q : VK} {E : XK} (hf : FormAt T.a_Form H o f) (fq : Fq l t e b g f) (ht : t ≤ 1000) (he : e ≤ 40) (hb : b ≤ 200) (hg : g ≤ 200) (hd : H d = some (.dK (dV kv))) (hv : Vals2 l kv) (hw : Worth (atD kv) f a w) (q : ∀ H', Same H H' → Q (wholeV a w) H') : sp_Form_at T [.ref o, .ref d] H Q E := by
  have lt := fq.letters (List.nodup_append.mp hv.nd).1
  have kl : kv.length = l.length + 1 := by
    have := congrArg List.length hv.keys
    rw [List.length_map, List.length_append] at this
    exact this
  have few := hv.few
  have e : atF (atD kv) f = wholeV a w := by
    rw [← whole_same fq.pos hw.1 hw.2]
    rfl
  refine ⟨f, kv, hf, fq.ok (fun x hx => (hv.lets x hx).1) ht (by omega) hb hg, by omega, hd, hv.let, by rw [hv.keys]; exact hv.nd, by omega, fun r hr x hx => ?_, fq.parts (k := 67) (v := atD kv) (fun x hx => Nat.le_of_lt (hv.has x hx).2) (by omega), fun H' s => by rw [e]; exact q H' s⟩
  have k := hv.has x ((fq.keys r.1 (List.mem_map_of_mem hr)).1 x hx)
  exact ⟨k.1, Nat.lt_trans k.2 (Nat.pow_lt_pow_right (by decide) (by decide))⟩
theorem ne_whole {a w : Int} {H : Hp} {Q : VK} (q : Q (.bl false) H) : rNeX K (wholeV a w) (wholeV a w) H Q := by
  unfold wholeV
  split
  · exact r_neXI (by rw [decide_eq_true rfl]; exact q)
  · exact non_ne q
theorem isi_whole {a w : Int} {H : Hp} {Q : VK} (q : Q (.bl false) H) : rIsi K [wholeV a w, .ty "bool"] H Q := by
  unfold wholeV
  split
  · refine r_isi (n := "int") tk_int (by decide) ?_
    rw [show ("int" == "bool" || "int" == "bool" && "bool" == "int") = false by decide]
    exact q
  · refine r_isi (n := "NoneType") tk_non (by decide) ?_
    rw [show ("NoneType" == "bool" || "NoneType" == "bool" && "bool" == "int") = false by decide]
    exact q
def sp_law_right (T : Txt K mg) : Sp := fun vs H Q _ => match vs with
  | [.ref p, v, .ref o, .ref a] => ∃ c t f l u e b g, Pu H p c ∧ c < 2 ^ 56 ∧ TrAt H v t ∧ TrOk l 30 6 t ∧ FormAt T.a_Form H o f ∧ Fq l u e b g f ∧ u ≤ 1000 ∧ e ≤ 40 ∧ b ≤ 200 ∧ g ≤ 200 ∧ (∀ x, Worth x f (worthM x t).1 (worthM x t).2) ∧ H a = some (.lst (strL l)) ∧ a ≠ p ∧ l.length ≤ 8 ∧ l.Nodup ∧ (∀ w ∈ l, LetD w) ∧ ∀ H', SB p H H' → Pu H' p (c + 10000) → Q (.bl true) H'
  | _ => False
def t_law_right (w : World) (T : Txt K mg) : TS := tSeq (tFor (iRng1 (tCons (tC (.int 4)) (tNil))) (gName 4) (tSeq (tAsg (tCall (sp_law_values T) [] E0 (tCons (tVar 0) (tCons (tOp rCat (tVar 3) (tLst (tCons (tC (.str "other")) (tNil)))) (tNil)))) (gName 5)) (tSeq (tIfS (tOr (tTest (tOp (rNeX K) (tMeth T.a_Form "at" (sp_Form_at T) [] E0 (tVar 2) (tCons (tVar 5) (tNil))) (tCall (sp_law_whole_at T) [] E0 (tCons (tVar 1) (tCons (tVar 5) (tNil)))))) (tB (tCB (rIsi K) (tCons (tMeth T.a_Form "at" (sp_Form_at T) [] E0 (tVar 2) (tCons (tVar 5) (tNil))) (tCons (tC (.ty "bool")) (tNil)))))) (tRet (tC (.bl false))) (tNext)) (tIfS (tTest (tOp (rNeX K) (tMeth T.a_Form "at" (sp_Form_at T) [] E0 (tUn (rNegO T.a_Form (sp_Form___neg T) E0) (tVar 2)) (tCons (tVar 5) (tNil))) (tCall (sp_law_whole_at T) [] E0 (tCons (tTup (tCons (tC (.str "minus")) (tCons (tTup (tCons (tC (.str "number")) (tCons (tC (.int 0)) (tNil)))) (tCons (tVar 1) (tNil))))) (tCons (tVar 5) (tNil)))))) (tRet (tC (.bl false))) (tNext))))) (tRet (tC (.bl true)))
theorem len_law_right (T : Txt K mg) : ∀ (vs : List V) (H : Hp) (Q : VK) (E : XK), sp_law_right T vs H Q E → vs.length = (["_law_purse_here", "_law_tree_here", "_law_form_here", "_law_names_here"] : List Str).length := by
  intro vs H Q E h
  unfold sp_law_right at h
  split at h
  all_goals first | rfl | exact h.elim
theorem rd_law_right (T : Txt K mg) (vs : List V) (H : Hp) (Q : VK) (E : XK) (h : sp_law_right T vs H Q E) : t_law_right w T { nx := fun _ H' => Q .non H', rt := Q } (start ["_law_purse_here", "_law_tree_here", "_law_form_here", "_law_names_here", "_law_turn", "_law_values_here"] vs) H := by
  match vs, h with
  | [.ref p, v, .ref o, .ref a], h =>
  obtain ⟨c, t, f, l, u, e, b, g, hp, hz, ht, hk, hf, fq, hu, he, hb, hg, hw, ha, ap, hl, nd, hL, q⟩ := h
  have sz : sizeLine = 16777216 := rfl
  have nd2 : (l ++ [("other" : Str)]).Nodup := by
    rw [List.nodup_append]
    exact ⟨nd, by simp, fun x hx y hy => by rw [List.mem_singleton.mp hy]; exact (hL x hx).2.1⟩
  unfold t_law_right
  walk_at "st"
  repeat walk_at "w"
  refine for_range (fun i σ H' => SB p H H' ∧ Pu H' p (c + 2000 * i) ∧ ∃ x4 x5, σ = [some (.ref p), some v, some (.ref o), some (.ref a), x4, x5]) ⟨fun _ _ _ z => z, hp.up (by omega), _, _, rfl⟩ ?_ ?_
  · rintro i σ H1 hi ⟨b1, hp1, x4, x5, rfl⟩
    have i4 : i < 4 := hi
    have ha1 := b1 _ _ ap ha
    repeat walk_at "w"
    rename_i e1 H2 e10 s2 he1
    have ha2 := CP.Same.to s2 ha1
    refine r_cat ha2 he1 (by rw [strL_len]; simp; omega) fun n H3 n0 s3 hn => ?_
    have hn : H3 n = some (.lst (strL (l ++ [("other" : Str)]))) := by rw [strL_app]; exact hn
    have hp3 := (hp1.mono s2).mono s3
    have np : n ≠ p := (hp1.mono s2).ne n0
    repeat walk_at "w"
    refine ⟨_, _, hp3, by omega, hn, np, by rw [List.length_append]; simp; omega, nd2, fun d kv H4 kk kb d0 b4 hd hp4 => ?_⟩
    have B4 : SB p H H4 := SB.trans' b1 (SB.trans' (Same.sb' (s2.trans s3)) b4)
    have V2 : Vals2 l kv := ⟨kk, nd2, kb, hl, hL⟩
    have hf4 := form_pu hp B4 hf
    have ht4 := tree_pu hp B4 ht
    obtain ⟨dx, dd, ho4, _⟩ := id hf4
    repeat walk_at "w"
    have hs : ∀ w ∈ l, (getD kv w).isSome = true ∧ (atD kv w).natAbs < 2 ^ 69 := fun w hw => ⟨(V2.has w hw).1, Nat.lt_trans (V2.has w hw).2 (by decide)⟩
    refine ⟨o, dx, _, rfl, ho4, by rfl, ?_⟩
    repeat walk_at "w"
    refine at_ask hf4 fq hu he hb hg hd V2 (hw _) fun H5 s5 => ?_
    have ht5 := ht4.stay (stay_same s5)
    have hd5 := CP.Same.to s5 hd
    repeat walk_at "w"
    refine ⟨t, l, kv, ht5, (hk.up (Nat.le_refl _)).1, hd5, hs, fun H6 s6 => ?_⟩
    refine ne_whole ?_
    refine ⟨_, rfl, ?_⟩
    have S6 := s5.trans s6
    repeat walk_at "w"
    refine ⟨o, dx, _, rfl, CP.Same.to S6 ho4, by rfl, ?_⟩
    repeat walk_at "w"
    refine at_ask (hf4.mono S6) fq hu he hb hg (CP.Same.to S6 hd) V2 (hw _) fun H7 s7 => ?_
    have S7 := S6.trans s7
    repeat walk_at "w"
    refine isi_whole ?_
    refine ⟨_, rfl, ?_⟩
    repeat walk_at "w"
    have hf7 := hf4.mono S7
    refine r_un ?_
    repeat walk_at "w"
    obtain ⟨dz, d7, ho7, _⟩ := id hf7
    refine ⟨o, dz, _, rfl, ho7, f, hf7, fq.ok (fun x hx => (hL x hx).1) hu (by omega) hb hg, fun n2 H8 n20 s8 hn2 => ?_⟩
    have S8 := S7.trans s8
    obtain ⟨dn, d8, ho8, _⟩ := id hn2
    refine ⟨n2, dn, _, rfl, ho8, by rfl, ?_⟩
    repeat walk_at "w"
    refine at_ask hn2.at fq.neg hu he hb hg (CP.Same.to S8 hd) V2 (hw _).neg fun H9 s9 => ?_
    have S9 := S8.trans s9
    repeat walk_at "w"
    rename_i t1 H10 t10 s10 ht1 t2 H11 t20 s11 ht2
    have S11 := S9.trans (s10.trans s11)
    refine ⟨.op .minus (.num 0) t, l, kv, ⟨t2, _, _, rfl, ht2, ⟨t1, rfl, CP.Same.to s11 ht1⟩, ht4.stay (stay_same S11)⟩, ⟨(show (0 : Int).natAbs < 2 ^ 30 by decide), hk⟩, CP.Same.to S11 hd, hs, fun H12 s12 => ?_⟩
    have ew : (worthM (atD kv) (.op .minus (.num 0) t)) = (0 - (worthM (atD kv) t).1, (worthM (atD kv) t).2) := by
      show ((0 : Int) * (worthM (atD kv) t).2 - (worthM (atD kv) t).1 * 1, 1 * (worthM (atD kv) t).2) = _
      rw [Int.zero_mul, Int.mul_one, Int.one_mul]
    rw [ew]
    refine ne_whole ?_
    refine ⟨_, rfl, ?_⟩
    have S12 := S11.trans s12
    repeat walk_at "w"
    exact ⟨SB.trans' B4 (Same.sb' S12), (hp4.mono S12).up (by omega), _, _, rfl⟩
  · rintro σ H1 ⟨b1, hp1, x4, x5, rfl⟩
    repeat walk_at "w"
    exact q H1 b1 (hp1.up (by omega))

theorem ok_law_right (T : Txt K mg) : FnOk P w K mg base CX0 10 T.a_law_right T.fd_law_right ["_law_purse_here", "_law_tree_here", "_law_form_here", "_law_names_here"] (sp_law_right T) :=
  T.F_law_right.ok sc_law_right (len_law_right T) fun cdv A outer s H vs Q E hr h => ⟨t_law_right w T, (pss_cons (ps_for PassesOwn.never rfl (pi_range1 (by rfl) T.n_range (pa_cons pe_int pa_nil)) (pg_name (i := 4) sc_law_right.nd rfl (Or.inl rfl)) (pss_cons (ps_set (i := 5) sc_law_right.nd rfl (Or.inl rfl) (pe_call (ok_law_values T) (hr.mono (by decide)) (by rfl) T.m__law_values T.F_law_values.kp (b_law_values T) .nil pass0 (pa_cons (pv 0) (pa_cons (pe_op op_cat (pv 3) (pe_lst (pa_cons pe_str pa_nil))) pa_nil))))
      (pss_cons (ps_if (PW.pt (pw_or (pt_cmpR (op_neX hr.units) (pe_meth (pv 2) T.c_Form T.M_Form_at (ok_Form_at T) (hr.mono (by decide)) (b_Form_at T) .nil pass0 (pa_cons (pv 5) pa_nil)) (pe_call (ok_law_whole_at T) (hr.mono (by decide)) (by rfl) T.m__law_whole_at T.F_law_whole_at.kp (b_law_whole_at T) .nil pass0 (pa_cons (pv 1) (pa_cons (pv 5) pa_nil))) (nomark _)) (pw_or1 (pt_val (pe_callB call_isi (by rfl) T.n_isinstance (by decide +kernel) (pa_cons (pe_meth (pv 2) T.c_Form T.M_Form_at (ok_Form_at T) (hr.mono (by decide)) (b_Form_at T) .nil pass0 (pa_cons (pv 5) pa_nil)) (pa_cons (pe_bltn (v := .ty "bool") (by rfl) T.n_bool (by decide +kernel) rfl) pa_nil))))))) (pss_one (ps_ret pe_bl)) pss_nil)
      (pss_one (ps_if (pt_cmpR (op_neX hr.units) (pe_meth (pe_un (un_negO T.M_Form___neg (ok_Form___neg T) (hr.mono (by decide)) (b_Form___neg T) pass0) (pv 2)) T.c_Form T.M_Form_at (ok_Form_at T) (hr.mono (by decide)) (b_Form_at T) .nil pass0 (pa_cons (pv 5) pa_nil)) (pe_call (ok_law_whole_at T) (hr.mono (by decide)) (by rfl) T.m__law_whole_at T.F_law_whole_at.kp (b_law_whole_at T) .nil pass0 (pa_cons (pe_tup (pa_cons pe_str (pa_cons (pe_tup (pa_cons pe_str (pa_cons pe_int pa_nil))) (pa_cons (pv 1) pa_nil)))) (pa_cons (pv 5) pa_nil))) (nomark _)) (pss_one (ps_ret pe_bl)) pss_nil)))))
      (pss_one (ps_ret pe_bl))), rd_law_right T vs H Q E h⟩
end
end CP

namespace CP
open PySem L2
section
variable {P : Program} {w : World} {K : PySem.W.Frag} {mg : Str → Option Value} {base : Heap}
theorem Worth.cancel {v : Str → Int} {f : Fm} {a w n : Int} (n0 : 0 < n) (w0 : 0 < w) (h : Worth v f (a * n) (w * n)) : Worth v f a w := by
  refine ⟨w0, cancelF ?_ n0⟩
  have := h.2
  grind
def sp_law_mixed_right (T : Txt K mg) : Sp := fun vs H Q _ => match vs with
  | [.ref p, v, .ref a] => ∃ c t l, Pu H p c ∧ c < 2 ^ 55 ∧ TrAt H v t ∧ TrOk l 7 3 t ∧ H a = some (.lst (strL l)) ∧ a ≠ p ∧ l.length ≤ 8 ∧ l.Nodup ∧ (∀ w ∈ l, LetD w) ∧ ∀ H', SB p H H' → Pu H' p (c + 100000) → Q (.bl true) H'
  | _ => False
def t_law_mixed_right (w : World) (T : Txt K mg) : TS := tSeq (tPar 3 4 (tCons (tCall (sp_law_form T) [] E0 (tCons (tVar 1) (tNil))) (tCons (tOp (rIxL K) (tLst (tCons (tC (.int 0)) (tCons (tC (.int 1)) (tCons (tC (.int 7)) (tCons (tOp oSub (tC (.int 0)) (tC (.int 3))) (tCons (tOp oPow (tC (.int 10)) (tC (.int 9))) (tNil))))))) (tCall (sp_law_draw T) [] E0 (tCons (tVar 0) (tCons (tC (.int 5)) (tNil))))) (tNil)))) (tSeq (tFor (iList K (tLst (tCons (tTup (tCons (tC (.str "plus")) (tCons (tOp (rBinI T.a_Form (sp_Form___add T) E0) (tVar 3) (tVar 4)) (tNil)))) (tCons (tTup (tCons (tC (.str "minus")) (tCons (tOp (rBinI T.a_Form (sp_Form___sub T) E0) (tVar 3) (tVar 4)) (tNil)))) (tCons (tTup (tCons (tC (.str "times")) (tCons (tOp (rBinI T.a_Form (sp_Form___mul T) E0) (tVar 3) (tVar 4)) (tNil)))) (tNil)))))) (gTup K 2 (gCons (gName 5) (gCons (gName 6) gNil))) (tIfS (tNot (tB (tCall (sp_law_right T) [] E0 (tCons (tVar 0) (tCons (tTup (tCons (tVar 5) (tCons (tVar 1) (tCons (tTup (tCons (tC (.str "number")) (tCons (tVar 4) (tNil)))) (tNil))))) (tCons (tVar 6) (tCons (tVar 2) (tNil)))))))) (tRet (tC (.bl false))) (tNext))) (tSeq (tAsg (tOp oAdd (tC (.int 1)) (tCall (sp_law_draw T) [] E0 (tCons (tVar 0) (tCons (tC (.int 9)) (tNil))))) (gName 7)) (tSeq (tAsg (tTup (tCons (tC (.str "minus")) (tCons (tTup (tCons (tC (.str "number")) (tCons (tC (.int 0)) (tNil)))) (tCons (tVar 1) (tNil))))) (gName 8)) (tSeq (tIfS (tNot (tB (tCall (sp_law_right T) [] E0 (tCons (tVar 0) (tCons (tTup (tCons (tC (.str "divided")) (tCons (tVar 8) (tCons (tVar 7) (tNil))))) (tCons (tMeth T.a_Form "over" (sp_Form_over T) [] E0 (tVar 3) (tCons (tOp oSub (tC (.int 0)) (tVar 7)) (tNil))) (tCons (tVar 2) (tNil)))))))) (tRet (tC (.bl false))) (tNext)) (tSeq (tAsg (tMeth T.a_Form "over" (sp_Form_over T) [] E0 (tOp (rBinI T.a_Form (sp_Form___mul T) E0) (tVar 3) (tVar 7)) (tCons (tVar 7) (tNil))) (gName 9)) (tRet (tAndV (tCall (sp_law_right T) [] E0 (tCons (tVar 0) (tCons (tVar 1) (tCons (tVar 3) (tCons (tVar 2) (tNil)))))) (tCall (sp_law_right T) [] E0 (tCons (tVar 0) (tCons (tVar 1) (tCons (tVar 9) (tCons (tVar 2) (tNil)))))))))))))
theorem len_law_mixed_right (T : Txt K mg) : ∀ (vs : List V) (H : Hp) (Q : VK) (E : XK), sp_law_mixed_right T vs H Q E → vs.length = (["_law_purse_here", "_law_tree_here", "_law_names_here"] : List Str).length := by
  intro vs H Q E h
  unfold sp_law_mixed_right at h
  split at h
  all_goals first | rfl | exact h.elim
theorem rd_law_mixed_right (T : Txt K mg) (vs : List V) (H : Hp) (Q : VK) (E : XK) (h : sp_law_mixed_right T vs H Q E) : t_law_mixed_right w T { nx := fun _ H' => Q .non H', rt := Q } (start ["_law_purse_here", "_law_tree_here", "_law_names_here", "_law_form_here", "_law_many", "_law_word", "_law_built", "_law_under", "_law_flipped", "_law_again"] vs) H := by
  match vs, h with
  | [.ref p, v, .ref a], h =>
  obtain ⟨c, t, l, hp, hz, ht, hk, ha, ap, hl, nd, hL, q⟩ := h
  have sz : sizeLine = 16777216 := rfl
  have hB : ∀ w ∈ l, letB w = true := fun w hw => (hL w hw).1
  have fq : Fq l 256 8 64 32 (formM t) := hk.fq (by decide)
  have fw : ∀ x, Worth x (formM t) (worthM x t).1 (worthM x t).2 := fun x => hk.worth (by decide) x
  have k3 : TrOk l 30 3 t := (hk.up (by decide)).2
  have k4 : TrOk l 30 4 t := (k3.up (Nat.le_refl _)).1
  have k5 : TrOk l 30 5 t := (k4.up (Nat.le_refl _)).1
  have fo : FOk (formM t) := tr_ok hB hk (Nat.le_refl _)
  unfold t_law_mixed_right
  walk_at "st"
  repeat walk_at "w"
  refine ⟨t, l, ht, hk, Nat.le_refl _, hB, fun o H1 o0 s1 ho => ?_⟩
  repeat walk_at "w"
  refine r_I ⟨by decide, by decide, by decide +kernel⟩ ?_
  rw [show ((10 : Int) ^ (9 : Int).toNat) = 1000000000 by decide +kernel]
  repeat walk_at "w"
  rename_i ls H2 ls0 s2 hls
  have S2 := s1.trans s2
  refine ⟨_, hp.mono S2, by omega, by decide, by decide, fun e H3 e0 e1 b3 hp3 => ?_⟩
  have lsp := (hp.mono s1).ne ls0
  obtain ⟨j, rfl⟩ := Int.eq_ofNat_of_zero_le e0
  obtain ⟨m, hm, mb⟩ : ∃ z : Int, ([.int 0, .int 1, .int 7, .int (0 - 3), .int 1000000000] : List V)[j]? = some (.int z) ∧ z.natAbs < 2 ^ 30 := by
    have : j = 0 ∨ j = 1 ∨ j = 2 ∨ j = 3 ∨ j = 4 := by omega
    rcases this with rfl | rfl | rfl | rfl | rfl
    · exact ⟨0, rfl, by decide⟩
    · exact ⟨1, rfl, by decide⟩
    · exact ⟨7, rfl, by decide⟩
    · exact ⟨0 - 3, rfl, by decide⟩
    · exact ⟨_, rfl, by decide⟩
  refine r_ixL (.of (b3 _ _ lsp hls)) (v := .int m) (atI_nat hm) ?_
  have ho3 := form_pu (hp.mono S2) b3 (ho.at.mono s2)
  have ht3 := tree_pu (hp.mono S2) b3 (ht.stay (stay_same S2))
  have ha3 := b3 _ _ ap (CP.Same.to S2 ha)
  have B3 : SB p H H3 := SB.trans' (Same.sb' S2) b3
  repeat walk_at "w"
  obtain ⟨dxo, ddo, ho4, hdo4⟩ := id ho3
  have qn : Fq l 1 8 30 1 (madeM [([], m)] 1) := (Fq.num (L := l) m mb).up (fun _ h => h) (Nat.le_refl _) (by decide) (Nat.le_refl _) (Nat.le_refl _)
  have on : FOk (madeM [([], m)] 1) := qn.ok hB (by decide) (by decide) (by decide) (by decide)
  have wn : ∀ x, Worth x (madeM [([], m)] 1) m 1 := fun x => Worth.num x m
  have qa := Fq.add (b := 66) fq qn (by decide) (by decide)
  have qs := Fq.add (b := 66) fq qn.neg (by decide) (by decide)
  have qm := Fq.mul fq qn
  refine ⟨o, m, dxo, _, rfl, rfl, ho4, _, _, ho3, .inr ⟨m, rfl, rfl⟩, fo, on, fun f1 H4 f10 s4 hf1 => ⟨f1, rfl, ?_⟩⟩
  repeat walk_at "w"
  rename_i t1 H5 t10 s5 ht1
  have S5 := s4.trans s5
  refine ⟨o, m, dxo, _, rfl, rfl, CP.Same.to S5 ho4, _, _, ho3.mono S5, fo, on, .inr ⟨m, rfl, rfl⟩, fun f2 H6 f20 s6 hf2 => ⟨f2, rfl, ?_⟩⟩
  repeat walk_at "w"
  rename_i t2 H7 t20 s7 ht2
  have S7 := S5.trans (s6.trans s7)
  refine ⟨o, m, dxo, _, rfl, rfl, CP.Same.to S7 ho4, _, _, dxo, ddo, CP.Same.to S7 ho4, CP.Same.to S7 hdo4, .inr ⟨m, rfl, rfl⟩, fo, on, fun f3 H8 f30 s8 hf3 => ⟨f3, rfl, ?_⟩⟩
  repeat walk_at "w"
  rename_i t3 H9 t30 s9 ht3' lst H10 lst0 s10 hlst
  have S10 := S7.trans (s8.trans (s9.trans s10))
  have item : ∀ (i : Nat) (v : V), ([.ref t1, .ref t2, .ref t3] : List V)[i]? = some v → ∃ (w : Ow) (t' b : Addr) (f : Fm), v = .ref t' ∧ H10 t' = some (.tup [.str w.word, .ref b]) ∧ FormAt T.a_Form H10 b f ∧ Fq l 300 16 100 40 f ∧ ∀ x, Worth x f (worthM x (.op w t (.num m))).1 (worthM x (.op w t (.num m))).2 := fun i v hv => by
    match i, hv with
    | 0, hv =>
      refine ⟨.plus, t1, f1, _, (Option.some.inj hv).symm, CP.Same.to (s6.trans (s7.trans (s8.trans (s9.trans s10)))) ht1, hf1.at.mono (s5.trans (s6.trans (s7.trans (s8.trans (s9.trans s10))))), qa.up (fun _ h => h) (by decide) (by decide) (by decide) (by decide), fun x => ?_⟩
      exact Worth.add fq.nd fq.pos qn.pos (fw x) (wn x)
    | 1, hv =>
      refine ⟨.minus, t2, f2, _, (Option.some.inj hv).symm, CP.Same.to (s8.trans (s9.trans s10)) ht2, hf2.at.mono (s7.trans (s8.trans (s9.trans s10))), qs.up (fun _ h => h) (by decide) (by decide) (by decide) (by decide), fun x => ?_⟩
      have h := Worth.add fq.nd fq.pos qn.neg.pos (fw x) (wn x).neg
      rw [show (worthM x t).1 * 1 + (0 - m) * (worthM x t).2 = (worthM x t).1 * 1 - m * (worthM x t).2 by grind] at h
      exact h
    | 2, hv =>
      refine ⟨.times, t3, f3, _, (Option.some.inj hv).symm, CP.Same.to s10 ht3', hf3.at.mono (s9.trans s10), qm.up (fun _ h => h) (by decide) (by decide) (by decide) (by decide), fun x => ?_⟩
      exact Worth.mul fq.pos qn.pos (fw x) (wn x)
  have B10 : SB p H H10 := SB.trans' B3 (Same.sb' S10)
  have hp10 := hp3.mono S10
  have lp : lst ≠ p := (hp3.mono (S7.trans (s8.trans s9))).ne lst0
  have hlst : H10 lst = some (.lst [.ref t1, .ref t2, .ref t3]) := hlst
  refine ⟨lst, rfl, ⟨_, .of hlst⟩, for_list (K := K) (a := lst) (xs := [.ref t1, .ref t2, .ref t3]) (fun i σ H' => SB p H10 H' ∧ Pu H' p (c + 60 + 10000 * i) ∧ ∃ x5 x6 x7 x8 x9, σ = [some (.ref p), some v, some (.ref a), some (.ref o), some (.int m), x5, x6, x7, x8, x9]) ⟨fun _ _ _ z => z, hp10.up (by omega), _, _, _, _, _, rfl⟩ (fun _ _ _ _ w => .of (w.1 _ _ lp hlst)) ?_ ?_⟩
  · rintro i x σ H11 hx ⟨b11, hp11, x5, x6, x7, x8, x9, rfl⟩
    have i3 : i < 3 := (List.getElem?_eq_some_iff.mp hx).1
    obtain ⟨w, t', b, f, rfl, e1, e2, e3, e4⟩ := item i x hx
    have e1 : H11 t' = some (.tup [.str w.word, .ref b]) := by
      obtain ⟨_, _, _, _, z, _⟩ := hp10
      exact stay_sb z b11 _ _ e1
    have e2 := form_pu hp10 b11 e2
    have ht11 := tree_pu hp (SB.trans' B10 b11) ht
    have ha11 := (SB.trans' B10 b11) _ _ ap ha
    repeat walk_at "w"
    rename_i t4 H12 t40 s12 ht4 t5 H13 t50 s13 ht5
    have S13 := s12.trans s13
    refine ⟨_, .op w t (.num m), f, l, _, _, _, _, hp11.mono S13, by omega, ⟨t5, _, _, rfl, ht5, ht11.stay (stay_same S13), ⟨t4, rfl, CP.Same.to s13 ht4⟩⟩, ⟨k5, mb⟩, e2.mono S13, e3, by decide, by decide, by decide, by decide, e4, CP.Same.to S13 ha11, ap, hl, nd, hL, fun H14 b14 hp14 => ?_⟩
    repeat walk_at "w"
    exact ⟨SB.trans' b11 (SB.trans' (Same.sb' S13) b14), hp14.up (by omega), _, _, _, _, _, rfl⟩
  · rintro σ H11 ⟨b11, hp11, x5, x6, x7, x8, x9, rfl⟩
    have hp11 : Pu H11 p (c + 60 + 30000) := hp11.up (by simp)
    have B11 := SB.trans' B10 b11
    have ho11 := form_pu hp10 b11 (ho3.mono S10)
    have ht11 := tree_pu hp B11 ht
    have ha11 := B11 _ _ ap ha
    repeat walk_at "w"
    refine ⟨_, hp11, by omega, by decide, by decide, fun d H12 d0 d1 b12 hp12 => ?_⟩
    have B12 := SB.trans' B11 b12
    have ho12 := form_pu hp11 b12 ho11
    have ht12 := tree_pu hp B12 ht
    have ha12 := B12 _ _ ap ha
    repeat walk_at "w"
    rename_i n1 H13 n10 s13 hn1 n2 H14 n20 s14 hn2 n3 H15 n30 s15 hn3
    have S15 := s13.trans (s14.trans s15)
    have ho15 := ho12.mono S15
    obtain ⟨dx15, dd15, hq15, hr15⟩ := id ho15
    have u1 : (0 - (1 + d)).natAbs < 2 ^ 4 := by omega
    have n0 : 0 - (1 + d) ≠ 0 := by omega
    refine ⟨o, dx15, _, rfl, hq15, by rfl, ?_⟩
    repeat walk_at "w"
    refine ⟨_, ho15, fo, n0, by omega, fun ov H16 ov0 s16 hov => ?_⟩
    repeat walk_at "w"
    have S16 := S15.trans s16
    have qv := Fq.over fq n0 u1
    refine ⟨_, .div (.op .minus (.num 0) t) (1 + d), _, l, _, _, _, _, hp12.mono S16, by omega, ⟨n3, _, rfl, CP.Same.to s16 hn3, n2, _, _, rfl, CP.Same.to (s15.trans s16) hn2, ⟨n1, rfl, CP.Same.to (s14.trans (s15.trans s16)) hn1⟩, ht12.stay (stay_same S16)⟩, ⟨by omega, by omega, (show (0 : Int).natAbs < 2 ^ 30 by decide), k4⟩, hov.at, qv, by decide, by decide, by decide, by decide, fun x => ?_, CP.Same.to S16 ha12, ap, hl, nd, hL, fun H17 b17 hp17 => ?_⟩
    · have h := Worth.over fq.pos n0 (fw x)
      rw [if_neg (by omega), show ((0 - (1 + d)).natAbs : Int) = 1 + d by omega] at h
      have e : worthM x (.div (.op .minus (.num 0) t) (1 + d)) = (0 - (worthM x t).1, (worthM x t).2 * (1 + d)) := by
        show ((0 : Int) * (worthM x t).2 - (worthM x t).1 * 1, 1 * (worthM x t).2 * (1 + d)) = _
        rw [Int.zero_mul, Int.mul_one, Int.one_mul]
      rw [e]
      exact h
    have B17 := SB.trans' B12 (SB.trans' (Same.sb' S16) b17)
    have ho17 := form_pu (hp12.mono S16) b17 (ho12.mono S16)
    have ht17 := tree_pu hp B17 ht
    have ha17 := B17 _ _ ap ha
    repeat walk_at "w"
    obtain ⟨dx17, dd17, hq17, hr17⟩ := id ho17
    have qn2 : Fq l 1 8 4 1 (madeM [([], 1 + d)] 1) := (Fq.num (L := l) (b := 4) (1 + d) (by omega)).up (fun _ h => h) (Nat.le_refl _) (by decide) (Nat.le_refl _) (Nat.le_refl _)
    have on2 : FOk (madeM [([], 1 + d)] 1) := qn2.ok hB (by decide) (by decide) (by decide) (by decide)
    have qm2 := Fq.mul fq qn2
    refine ⟨o, 1 + d, dx17, _, rfl, rfl, hq17, _, _, dx17, dd17, hq17, hr17, .inr ⟨_, rfl, rfl⟩, fo, on2, fun g1 H18 g10 s18 hg1 => ⟨g1, rfl, ?_⟩⟩
    obtain ⟨dg, _, hg2, _⟩ := hg1.at
    refine ⟨g1, dg, _, rfl, hg2, by rfl, ?_⟩
    repeat walk_at "w"
    have v0 : 1 + d ≠ 0 := by omega
    have v1 : (1 + d).natAbs < 2 ^ 4 := by omega
    refine ⟨_, hg1.at, qm2.ok hB (by decide) (by decide) (by decide) (by decide), v0, by omega, fun g2 H19 g20 s19 hg3 => ?_⟩
    have S19 := s18.trans s19
    have qw := Fq.over qm2 v0 v1
    repeat walk_at "w"
    have k6 : TrOk l 30 6 t := (k5.up (Nat.le_refl _)).1
    refine ⟨_, t, _, l, _, _, _, _, hp17.mono S19, by omega, ht17.stay (stay_same S19), k6, ho17.mono S19, fq, by decide, by decide, by decide, by decide, fw, CP.Same.to S19 ha17, ap, hl, nd, hL, fun H20 b20 hp20 => ?_⟩
    have B20 := SB.trans' B17 (SB.trans' (Same.sb' S19) b20)
    have hg20 := form_pu (hp17.mono S19) b20 hg3.at
    have ht20 := tree_pu hp B20 ht
    have ha20 := B20 _ _ ap ha
    repeat walk_at "w"
    refine ⟨_, t, _, l, _, _, _, _, hp20, by omega, ht20, k6, hg20, qw, by decide, by decide, by decide, by decide, fun x => ?_, ha20, ap, hl, nd, hL, fun H21 b21 hp21 => ?_⟩
    · have h := Worth.over qm2.pos v0 (Worth.mul fq.pos qn2.pos (fw x) (Worth.num x (1 + d)))
      rw [if_pos (by omega), show ((1 + d).natAbs : Int) = 1 + d by omega, Int.mul_one] at h
      exact Worth.cancel (by omega) (fw x).1 h
    · exact q H21 (SB.trans' B20 b21) (hp21.up (by omega))

theorem ok_law_mixed_right (T : Txt K mg) : FnOk P w K mg base CX0 13 T.a_law_mixed_right T.fd_law_mixed_right ["_law_purse_here", "_law_tree_here", "_law_names_here"] (sp_law_mixed_right T) :=
  T.F_law_mixed_right.ok sc_law_mixed_right (len_law_mixed_right T) fun cdv A outer s H vs Q E hr h => ⟨t_law_mixed_right w T, (pss_cons (ps_par (i := 3) (j := 4) rfl sc_law_mixed_right.nd rfl rfl (by decide) rfl rfl (pa_cons (pe_call (ok_law_form T) (hr.mono (by decide)) (by rfl) T.m__law_form T.F_law_form.kp (b_law_form T) .nil pass0 (pa_cons (pv 1) pa_nil)) (pa_cons (pe_ix ix_list (pe_lst (pa_cons pe_int (pa_cons pe_int (pa_cons pe_int (pa_cons (pe_op op_sub pe_int pe_int) (pa_cons (pe_op op_powW pe_int pe_int) pa_nil)))))) (pe_call (ok_law_draw T) (hr.mono (by decide)) (by rfl) T.m__law_draw T.F_law_draw.kp (b_law_draw T) .nil pass0 (pa_cons (pv 0) (pa_cons pe_int pa_nil))) (fun _ _ => rfl)) pa_nil)) (by rfl))
      (pss_cons (ps_for PassesOwn.never rfl (pi_list (pe_lst (pa_cons (pe_tup (pa_cons pe_str (pa_cons (pe_op (op_binI (op := .Add) rfl rfl T.S_Form T.M_Form___add T.Z_Form___add (ok_Form___add T) (hr.mono (by decide)) (b_Form___add T) pass0) (pv 3) (pv 4)) pa_nil))) (pa_cons (pe_tup (pa_cons pe_str (pa_cons (pe_op (op_binI (op := .Sub) rfl rfl T.S_Form T.M_Form___sub T.Z_Form___sub (ok_Form___sub T) (hr.mono (by decide)) (b_Form___sub T) pass0) (pv 3) (pv 4)) pa_nil))) (pa_cons (pe_tup (pa_cons pe_str (pa_cons (pe_op (op_binI (op := .Mult) rfl rfl T.S_Form T.M_Form___mul T.Z_Form___mul (ok_Form___mul T) (hr.mono (by decide)) (b_Form___mul T) pass0) (pv 3) (pv 4)) pa_nil))) pa_nil))))) (pg_tup rfl (pgs_cons (pg_name (i := 5) sc_law_mixed_right.nd rfl (Or.inl rfl)) (pgs_cons (pg_name (i := 6) sc_law_mixed_right.nd rfl (Or.inl rfl)) pgs_nil))) (pss_one (ps_if (pt_not (pt_val (pe_call (ok_law_right T) (hr.mono (by decide)) (by rfl) T.m__law_right T.F_law_right.kp (b_law_right T) .nil pass0 (pa_cons (pv 0) (pa_cons (pe_tup (pa_cons (pv 5) (pa_cons (pv 1) (pa_cons (pe_tup (pa_cons pe_str (pa_cons (pv 4) pa_nil))) pa_nil)))) (pa_cons (pv 6) (pa_cons (pv 2) pa_nil))))))) (pss_one (ps_ret pe_bl)) pss_nil)))
      (pss_cons (ps_set (i := 7) sc_law_mixed_right.nd rfl (Or.inl rfl) (pe_op op_add pe_int (pe_call (ok_law_draw T) (hr.mono (by decide)) (by rfl) T.m__law_draw T.F_law_draw.kp (b_law_draw T) .nil pass0 (pa_cons (pv 0) (pa_cons pe_int pa_nil)))))
      (pss_cons (ps_set (i := 8) sc_law_mixed_right.nd rfl (Or.inl rfl) (pe_tup (pa_cons pe_str (pa_cons (pe_tup (pa_cons pe_str (pa_cons pe_int pa_nil))) (pa_cons (pv 1) pa_nil)))))
      (pss_cons (ps_if (pt_not (pt_val (pe_call (ok_law_right T) (hr.mono (by decide)) (by rfl) T.m__law_right T.F_law_right.kp (b_law_right T) .nil pass0 (pa_cons (pv 0) (pa_cons (pe_tup (pa_cons pe_str (pa_cons (pv 8) (pa_cons (pv 7) pa_nil)))) (pa_cons (pe_meth (pv 3) T.c_Form T.M_Form_over (ok_Form_over T) (hr.mono (by decide)) (b_Form_over T) .nil pass0 (pa_cons (pe_op op_sub pe_int (pv 7)) pa_nil)) (pa_cons (pv 2) pa_nil))))))) (pss_one (ps_ret pe_bl)) pss_nil)
      (pss_cons (ps_set (i := 9) sc_law_mixed_right.nd rfl (Or.inl rfl) (pe_meth (pe_op (op_binI (op := .Mult) rfl rfl T.S_Form T.M_Form___mul T.Z_Form___mul (ok_Form___mul T) (hr.mono (by decide)) (b_Form___mul T) pass0) (pv 3) (pv 7)) T.c_Form T.M_Form_over (ok_Form_over T) (hr.mono (by decide)) (b_Form_over T) .nil pass0 (pa_cons (pv 7) pa_nil)))
      (pss_one (ps_ret (pe_and (pe_call (ok_law_right T) (hr.mono (by decide)) (by rfl) T.m__law_right T.F_law_right.kp (b_law_right T) .nil pass0 (pa_cons (pv 0) (pa_cons (pv 1) (pa_cons (pv 3) (pa_cons (pv 2) pa_nil))))) (pe_one (pe_call (ok_law_right T) (hr.mono (by decide)) (by rfl) T.m__law_right T.F_law_right.kp (b_law_right T) .nil pass0 (pa_cons (pv 0) (pa_cons (pv 1) (pa_cons (pv 9) (pa_cons (pv 2) pa_nil))))))))))))))), rd_law_mixed_right T vs H Q E h⟩
end
end CP

namespace CP
open PySem L2
section
variable {P : Program} {w : World} {K : PySem.W.Frag} {mg : Str → Option Value} {base : Heap}
def sp_law (_ : Txt K mg) : Sp := fun vs H Q _ => ∃ (a : Addr) (ns : List Int), vs = [.ref a] ∧ SqL K H a (ns.map V.int) ∧ ns.length ≤ 63 ∧ ∀ H', Q (.bl true) H'
def sp_top (K : PySem.W.Frag) : Sp := fun vs H Q _ => ∃ (a : Addr) (ns : List Int), vs = [.ref a] ∧ SqL K H a (ns.map V.int) ∧ ns.length ≤ 63 ∧ ∀ H', Q (.bl true) H'
theorem sp_law_top (T : Txt K mg) (vs : List V) (H : Hp) (Q : VK) (E : XK) (z : sp_top K vs H Q E) : sp_law T vs H Q E := z
def t_law (w : World) (T : Txt K mg) : TS := tSeq (tFor (iList K (tCall (sp_law_purses T) [] E0 (tCons (tVar 0) (tCons (tC (.int 20)) (tNil))))) (gName 1) (tSeq (tAsg (tCall (sp_law_names T) [] E0 (tCons (tVar 1) (tCons (tCall (sp_law_draw T) [] E0 (tCons (tVar 1) (tCons (tC (.int 4)) (tNil)))) (tNil)))) (gName 2)) (tSeq (tAsg (tCall (sp_law_tree T) [] E0 (tCons (tVar 1) (tCons (tOp oAdd (tC (.int 1)) (tCall (sp_law_draw T) [] E0 (tCons (tVar 1) (tCons (tC (.int 3)) (tNil))))) (tCons (tVar 2) (tNil))))) (gName 3)) (tIfS (tOr (tNot (tB (tCall (sp_law_right T) [] E0 (tCons (tVar 1) (tCons (tVar 3) (tCons (tCall (sp_law_form T) [] E0 (tCons (tVar 3) (tNil))) (tCons (tVar 2) (tNil)))))))) (tNot (tB (tCall (sp_law_mixed_right T) [] E0 (tCons (tVar 1) (tCons (tVar 3) (tCons (tVar 2) (tNil)))))))) (tRet (tC (.bl false))) (tNext))))) (tRet (tC (.bl true)))
theorem len_law (T : Txt K mg) : ∀ (vs : List V) (H : Hp) (Q : VK) (E : XK), sp_law T vs H Q E → vs.length = (["_law_script"] : List Str).length := by
  rintro vs H Q E ⟨a, ns, rfl, h⟩
  rfl
theorem rd_law (T : Txt K mg) (vs : List V) (H : Hp) (Q : VK) (E : XK) (h : sp_law T vs H Q E) : t_law w T { nx := fun _ H' => Q .non H', rt := Q } (start ["_law_script", "_law_purse_here", "_law_names_here", "_law_tree_here"] vs) H := by
  obtain ⟨a, ns, rfl, ha, hn, q⟩ := h
  have sz : sizeLine = 16777216 := rfl
  unfold t_law
  walk_at "st"
  repeat walk_at "w"
  refine ⟨ns, ha, hn, by decide, by decide, fun ls H1 ps ls0 s1 hls nd pp lp => ?_⟩
  refine ⟨ls, rfl, ⟨_, .of hls⟩, for_list (K := K) (a := ls) (xs := ps.map V.ref) (fun i σ H' => H' ls = some (.lst (ps.map V.ref)) ∧ (∀ j q, ps[j]? = some q → i ≤ j → Pu H' q 0) ∧ ∃ x1 x2 x3, σ = [some (.ref a), x1, x2, x3]) ⟨hls, fun j q hj _ => (pp q (List.mem_of_getElem? hj)).2.2, _, _, _, rfl⟩ (fun _ _ _ _ w => .of w.1) ?_ ?_⟩
  · rintro i x σ H2 hx ⟨hl2, hp2, x1, x2, x3, rfl⟩
    obtain ⟨p, hp, rfl⟩ : ∃ p, ps[i]? = some p ∧ x = .ref p := by
      rw [List.getElem?_map] at hx
      obtain ⟨p, hp, e⟩ := Option.map_eq_some_iff.mp hx
      exact ⟨p, hp, e.symm⟩
    have pu := hp2 i p hp (Nat.le_refl _)
    have lp2 : ls ≠ p := (pp p (List.mem_of_getElem? hp)).2.1.symm
    have rest : ∀ {H'}, SB p H2 H' → H' ls = some (.lst (ps.map V.ref)) ∧ ∀ j q, ps[j]? = some q → i + 1 ≤ j → Pu H' q 0 := fun {H'} b => ⟨b _ _ lp2 hl2, fun j q hj k => (hp2 j q hj (by omega)).sb b fun e => by
      obtain ⟨h1, g1⟩ := List.getElem?_eq_some_iff.mp hj
      obtain ⟨h2, g2⟩ := List.getElem?_eq_some_iff.mp hp
      have := (List.pairwise_iff_getElem.mp nd) i j h2 h1 (by omega)
      exact this (by rw [g2, g1, e])⟩
    repeat walk_at "w"
    refine ⟨_, pu, by decide, by decide, by decide, fun d H3 d0 d1 b3 hp3 => ?_⟩
    repeat walk_at "w"
    refine ⟨_, hp3, by decide, by omega, by omega, fun nm l H4 nd4 hL ll nm0 b4 hnm hp4 => ?_⟩
    have np : nm ≠ p := hp3.ne nm0
    have B4 := SB.trans' b3 b4
    have hB : ∀ w ∈ l, letB w = true := fun w hw => (hL w hw).1
    repeat walk_at "w"
    refine ⟨_, hp4, by decide, by decide, by decide, fun e H5 e0 e1 b5 hp5 => ?_⟩
    have hnm5 := b5 _ _ np hnm
    obtain ⟨n, hn1, hn2⟩ : ∃ n : Nat, 1 + e = (n : Int) ∧ n ≤ 3 := ⟨(1 + e).toNat, by omega, by omega⟩
    repeat walk_at "w"
    have p8 : (2 : Int) ^ n ≤ 8 := by
      have : n = 0 ∨ n = 1 ∨ n = 2 ∨ n = 3 := by omega
      rcases this with rfl | rfl | rfl | rfl <;> decide
    refine ⟨n, hn1, hn2, by decide, _, l, hp5, by omega, hnm5, np, by omega, hB, fun v t H6 ht hk b6 hp6 => ?_⟩
    have hk3 : TrOk l 7 3 t := by
      have : n = 0 ∨ n = 1 ∨ n = 2 ∨ n = 3 := by omega
      rcases this with rfl | rfl | rfl | rfl
      · exact (((hk.up (Nat.le_refl _)).1.up (Nat.le_refl _)).1.up (Nat.le_refl _)).1
      · exact ((hk.up (Nat.le_refl _)).1.up (Nat.le_refl _)).1
      · exact (hk.up (Nat.le_refl _)).1
      · exact hk
    have B6 := SB.trans' (SB.trans' B4 b5) b6
    have hnm6 := b6 _ _ np hnm5
    have hp6 := hp6.up (d := 10000) (by omega)
    repeat walk_at "w"
    refine ⟨t, l, ht, hk3, by decide, hB, fun o H7 o0 s7 ho => ?_⟩
    have fq : Fq l 256 8 64 32 (formM t) := hk3.fq (by decide)
    have k6 : TrOk l 30 6 t := (((((hk3.up (by decide)).2.up (Nat.le_refl _)).1.up (Nat.le_refl _)).1).up (Nat.le_refl 30)).1
    repeat walk_at "w"
    refine ⟨_, t, _, l, _, _, _, _, hp6.mono s7, by decide, ht.stay (stay_same s7), k6, ho.at, fq, by decide, by decide, by decide, by decide, fun x => hk3.worth (by decide) x, CP.Same.to s7 hnm6, np, by omega, nd4, hL, fun H8 b8 hp8 => ?_⟩
    have B8 := SB.trans' B6 (SB.trans' (Same.sb' s7) b8)
    repeat walk_at "w"
    have ht8 := tree_pu (hp6.mono s7) b8 (ht.stay (stay_same s7))
    refine ⟨_, t, l, hp8, by decide, ht8, hk3, b8 _ _ np (CP.Same.to s7 hnm6), np, by omega, nd4, hL, fun H9 b9 hp9 => ?_⟩
    repeat walk_at "w"
    obtain ⟨r1, r2⟩ := rest (SB.trans' B8 b9)
    exact ⟨r1, r2, _, _, _, rfl⟩
  · rintro σ H2 ⟨_, _, x1, x2, x3, rfl⟩
    repeat walk_at "w"
    exact q H2

theorem ok_law (T : Txt K mg) : FnOk P w K mg base CX0 14 T.a_law T.fd_law ["_law_script"] (sp_law T) :=
  T.F_law.ok sc_law (len_law T) fun cdv A outer s H vs Q E hr h => ⟨t_law w T, (pss_cons (ps_for PassesOwn.never rfl (pi_list (pe_call (ok_law_purses T) (hr.mono (by decide)) (by rfl) T.m__law_purses T.F_law_purses.kp (b_law_purses T) .nil pass0 (pa_cons (pv 0) (pa_cons pe_int pa_nil)))) (pg_name (i := 1) sc_law.nd rfl (Or.inl rfl)) (pss_cons (ps_set (i := 2) sc_law.nd rfl (Or.inl rfl) (pe_call (ok_law_names T) (hr.mono (by decide)) (by rfl) T.m__law_names T.F_law_names.kp (b_law_names T) .nil pass0 (pa_cons (pv 1) (pa_cons (pe_call (ok_law_draw T) (hr.mono (by decide)) (by rfl) T.m__law_draw T.F_law_draw.kp (b_law_draw T) .nil pass0 (pa_cons (pv 1) (pa_cons pe_int pa_nil))) pa_nil))))
      (pss_cons (ps_set (i := 3) sc_law.nd rfl (Or.inl rfl) (pe_call (ok_law_tree T) (hr.mono (by decide)) (by rfl) T.m__law_tree T.F_law_tree.kp (b_law_tree T) .nil pass0 (pa_cons (pv 1) (pa_cons (pe_op op_add pe_int (pe_call (ok_law_draw T) (hr.mono (by decide)) (by rfl) T.m__law_draw T.F_law_draw.kp (b_law_draw T) .nil pass0 (pa_cons (pv 1) (pa_cons pe_int pa_nil)))) (pa_cons (pv 2) pa_nil)))))
      (pss_one (ps_if (PW.pt (pw_or (pt_not (pt_val (pe_call (ok_law_right T) (hr.mono (by decide)) (by rfl) T.m__law_right T.F_law_right.kp (b_law_right T) .nil pass0 (pa_cons (pv 1) (pa_cons (pv 3) (pa_cons (pe_call (ok_law_form T) (hr.mono (by decide)) (by rfl) T.m__law_form T.F_law_form.kp (b_law_form T) .nil pass0 (pa_cons (pv 3) pa_nil)) (pa_cons (pv 2) pa_nil))))))) (pw_or1 (pt_not (pt_val (pe_call (ok_law_mixed_right T) (hr.mono (by decide)) (by rfl) T.m__law_mixed_right T.F_law_mixed_right.kp (b_law_mixed_right T) .nil pass0 (pa_cons (pv 1) (pa_cons (pv 3) (pa_cons (pv 2) pa_nil))))))))) (pss_one (ps_ret pe_bl)) pss_nil)))))
      (pss_one (ps_ret pe_bl))), rd_law T vs H Q E h⟩
end
end CP

namespace CP
open PySem L2
theorem dfl1 {K : PySem.W.Frag} {T : Addr} {oc : Value} {od : Option Addr} {its : Array Value} {n : Nat} {sl : Array (Option Value)} {dvs : List V} (hd : dvs ≠ []) (hl : K.lookup T = some ⟨oc, od, .seq its n, sl⟩) (hr : _root_.He.relAll dvs its.toList = true) : DflV K (.ref T) dvs := .inr ⟨hd, T, _, its.toList, n, rfl, hl, by simp, _root_.He.relAll_ok hr⟩
theorem all_mk {w : World} {l : PySem.W.OpenLaw} {K : PySem.W.Frag} {h : Heap} {mg : Str → Option Value} {fa : Addr} (X : K.In h) (G : h.Ns mainGlobals mg) (hfa : mg "law" = some (.ref fa))
    {fis_whole : Addr} {odis_whole anis_whole : Option Addr} {slis_whole : Array (Option Value)} {ocis_whole kVis_whole dcis_whole pmis_whole cdis_whole ctis_whole : Value}
    {fis_letter : Addr} {odis_letter anis_letter : Option Addr} {slis_letter : Array (Option Value)} {ocis_letter kVis_letter dcis_letter pmis_letter cdis_letter ctis_letter : Value}
    {fcheck_letter : Addr} {odcheck_letter ancheck_letter : Option Addr} {slcheck_letter : Array (Option Value)} {occheck_letter kVcheck_letter dccheck_letter pmcheck_letter cdcheck_letter ctcheck_letter : Value}
    {fcheck_form : Addr} {odcheck_form ancheck_form : Option Addr} {slcheck_form : Array (Option Value)} {occheck_form kVcheck_form dccheck_form pmcheck_form cdcheck_form ctcheck_form : Value}
    {fare_values : Addr} {odare_values anare_values : Option Addr} {slare_values : Array (Option Value)} {ocare_values kVare_values dcare_values pmare_values cdare_values ctare_values : Value}
    {fcommon : Addr} {odcommon ancommon : Option Addr} {slcommon : Array (Option Value)} {occommon kVcommon dccommon pmcommon cdcommon ctcommon : Value}
    {fmade : Addr} {odmade anmade : Option Addr} {slmade : Array (Option Value)} {ocmade kVmade dcmade pmmade cdmade ctmade : Value}
    {fas_form : Addr} {odas_form anas_form : Option Addr} {slas_form : Array (Option Value)} {ocas_form kVas_form dcas_form pmas_form cdas_form ctas_form : Value}
    {fForm___init : Addr} {odForm___init anForm___init : Option Addr} {slForm___init : Array (Option Value)} {ocForm___init kVForm___init dcForm___init pmForm___init cdForm___init ctForm___init : Value}
    {fForm___add : Addr} {odForm___add anForm___add : Option Addr} {slForm___add : Array (Option Value)} {ocForm___add kVForm___add dcForm___add pmForm___add cdForm___add ctForm___add : Value}
    {fForm___neg : Addr} {odForm___neg anForm___neg : Option Addr} {slForm___neg : Array (Option Value)} {ocForm___neg kVForm___neg dcForm___neg pmForm___neg cdForm___neg ctForm___neg : Value}
    {fForm___sub : Addr} {odForm___sub anForm___sub : Option Addr} {slForm___sub : Array (Option Value)} {ocForm___sub kVForm___sub dcForm___sub pmForm___sub cdForm___sub ctForm___sub : Value}
    {fForm___mul : Addr} {odForm___mul anForm___mul : Option Addr} {slForm___mul : Array (Option Value)} {ocForm___mul kVForm___mul dcForm___mul pmForm___mul cdForm___mul ctForm___mul : Value}
    {fForm_over : Addr} {odForm_over anForm_over : Option Addr} {slForm_over : Array (Option Value)} {ocForm_over kVForm_over dcForm_over pmForm_over cdForm_over ctForm_over : Value}
    {fForm_letters : Addr} {odForm_letters anForm_letters : Option Addr} {slForm_letters : Array (Option Value)} {ocForm_letters kVForm_letters dcForm_letters pmForm_letters cdForm_letters ctForm_letters : Value}
    {fForm_above : Addr} {odForm_above anForm_above : Option Addr} {slForm_above : Array (Option Value)} {ocForm_above kVForm_above dcForm_above pmForm_above cdForm_above ctForm_above : Value}
    {fForm_at : Addr} {odForm_at anForm_at : Option Addr} {slForm_at : Array (Option Value)} {ocForm_at kVForm_at dcForm_at pmForm_at cdForm_at ctForm_at : Value}
    {fletter : Addr} {odletter anletter : Option Addr} {slletter : Array (Option Value)} {ocletter kVletter dcletter pmletter cdletter ctletter : Value}
    {fnumber : Addr} {odnumber annumber : Option Addr} {slnumber : Array (Option Value)} {ocnumber kVnumber dcnumber pmnumber cdnumber ctnumber : Value}
    {flaw_purse : Addr} {odlaw_purse anlaw_purse : Option Addr} {sllaw_purse : Array (Option Value)} {oclaw_purse kVlaw_purse dclaw_purse pmlaw_purse cdlaw_purse ctlaw_purse : Value}
    {flaw_mixed : Addr} {odlaw_mixed anlaw_mixed : Option Addr} {sllaw_mixed : Array (Option Value)} {oclaw_mixed kVlaw_mixed dclaw_mixed pmlaw_mixed cdlaw_mixed ctlaw_mixed : Value}
    {flaw_draw : Addr} {odlaw_draw anlaw_draw : Option Addr} {sllaw_draw : Array (Option Value)} {oclaw_draw kVlaw_draw dclaw_draw pmlaw_draw cdlaw_draw ctlaw_draw : Value}
    {flaw_purses : Addr} {odlaw_purses anlaw_purses : Option Addr} {sllaw_purses : Array (Option Value)} {oclaw_purses kVlaw_purses dclaw_purses pmlaw_purses cdlaw_purses ctlaw_purses : Value}
    {flaw_one_of : Addr} {odlaw_one_of anlaw_one_of : Option Addr} {sllaw_one_of : Array (Option Value)} {oclaw_one_of kVlaw_one_of dclaw_one_of pmlaw_one_of cdlaw_one_of ctlaw_one_of : Value}
    {flaw_tree : Addr} {odlaw_tree anlaw_tree : Option Addr} {sllaw_tree : Array (Option Value)} {oclaw_tree kVlaw_tree dclaw_tree pmlaw_tree cdlaw_tree ctlaw_tree : Value}
    {flaw_worth : Addr} {odlaw_worth anlaw_worth : Option Addr} {sllaw_worth : Array (Option Value)} {oclaw_worth kVlaw_worth dclaw_worth pmlaw_worth cdlaw_worth ctlaw_worth : Value}
    {flaw_form : Addr} {odlaw_form anlaw_form : Option Addr} {sllaw_form : Array (Option Value)} {oclaw_form kVlaw_form dclaw_form pmlaw_form cdlaw_form ctlaw_form : Value}
    {flaw_whole_at : Addr} {odlaw_whole_at anlaw_whole_at : Option Addr} {sllaw_whole_at : Array (Option Value)} {oclaw_whole_at kVlaw_whole_at dclaw_whole_at pmlaw_whole_at cdlaw_whole_at ctlaw_whole_at : Value}
    {flaw_values : Addr} {odlaw_values anlaw_values : Option Addr} {sllaw_values : Array (Option Value)} {oclaw_values kVlaw_values dclaw_values pmlaw_values cdlaw_values ctlaw_values : Value}
    {flaw_names : Addr} {odlaw_names anlaw_names : Option Addr} {sllaw_names : Array (Option Value)} {oclaw_names kVlaw_names dclaw_names pmlaw_names cdlaw_names ctlaw_names : Value}
    {flaw_right : Addr} {odlaw_right anlaw_right : Option Addr} {sllaw_right : Array (Option Value)} {oclaw_right kVlaw_right dclaw_right pmlaw_right cdlaw_right ctlaw_right : Value}
    {flaw_mixed_right : Addr} {odlaw_mixed_right anlaw_mixed_right : Option Addr} {sllaw_mixed_right : Array (Option Value)} {oclaw_mixed_right kVlaw_mixed_right dclaw_mixed_right pmlaw_mixed_right cdlaw_mixed_right ctlaw_mixed_right : Value}
    {flaw : Addr} {odlaw anlaw : Option Addr} {sllaw : Array (Option Value)} {oclaw kVlaw dclaw pmlaw cdlaw ctlaw : Value}
    {CForm : Addr}
    {tkSMALL : Tok}
    (ais_whole : PySem.W.nsIn K mainGlobals "is_whole" = some (some (.ref fis_whole)))
    (lis_whole : K.lookup fis_whole = some ⟨ocis_whole, odis_whole, .func (PySem.W.fnOf "is_whole" "is_whole" (defArgs s_is_whole) (defBody s_is_whole) (defScope s_is_whole) .none kVis_whole dcis_whole pmis_whole anis_whole cdis_whole ctis_whole), slis_whole⟩)
    (cis_whole : PySem.W.codeIn K cdis_whole "is_whole" = true) (kis_whole : PySem.W.keepIn K (.ref fis_whole) = true)
    (ais_letter : PySem.W.nsIn K mainGlobals "is_letter" = some (some (.ref fis_letter)))
    (lis_letter : K.lookup fis_letter = some ⟨ocis_letter, odis_letter, .func (PySem.W.fnOf "is_letter" "is_letter" (defArgs s_is_letter) (defBody s_is_letter) (defScope s_is_letter) .none kVis_letter dcis_letter pmis_letter anis_letter cdis_letter ctis_letter), slis_letter⟩)
    (cis_letter : PySem.W.codeIn K cdis_letter "is_letter" = true) (kis_letter : PySem.W.keepIn K (.ref fis_letter) = true)
    (acheck_letter : PySem.W.nsIn K mainGlobals "check_letter" = some (some (.ref fcheck_letter)))
    (lcheck_letter : K.lookup fcheck_letter = some ⟨occheck_letter, odcheck_letter, .func (PySem.W.fnOf "check_letter" "check_letter" (defArgs s_check_letter) (defBody s_check_letter) (defScope s_check_letter) .none kVcheck_letter dccheck_letter pmcheck_letter ancheck_letter cdcheck_letter ctcheck_letter), slcheck_letter⟩)
    (ccheck_letter : PySem.W.codeIn K cdcheck_letter "check_letter" = true) (kcheck_letter : PySem.W.keepIn K (.ref fcheck_letter) = true)
    (acheck_form : PySem.W.nsIn K mainGlobals "check_form" = some (some (.ref fcheck_form)))
    (lcheck_form : K.lookup fcheck_form = some ⟨occheck_form, odcheck_form, .func (PySem.W.fnOf "check_form" "check_form" (defArgs s_check_form) (defBody s_check_form) (defScope s_check_form) .none kVcheck_form dccheck_form pmcheck_form ancheck_form cdcheck_form ctcheck_form), slcheck_form⟩)
    (ccheck_form : PySem.W.codeIn K cdcheck_form "check_form" = true) (kcheck_form : PySem.W.keepIn K (.ref fcheck_form) = true)
    (aare_values : PySem.W.nsIn K mainGlobals "are_values" = some (some (.ref fare_values)))
    (lare_values : K.lookup fare_values = some ⟨ocare_values, odare_values, .func (PySem.W.fnOf "are_values" "are_values" (defArgs s_are_values) (defBody s_are_values) (defScope s_are_values) .none kVare_values dcare_values pmare_values anare_values cdare_values ctare_values), slare_values⟩)
    (care_values : PySem.W.codeIn K cdare_values "are_values" = true) (kare_values : PySem.W.keepIn K (.ref fare_values) = true)
    (acommon : PySem.W.nsIn K mainGlobals "common" = some (some (.ref fcommon)))
    (lcommon : K.lookup fcommon = some ⟨occommon, odcommon, .func (PySem.W.fnOf "common" "common" (defArgs s_common) (defBody s_common) (defScope s_common) .none kVcommon dccommon pmcommon ancommon cdcommon ctcommon), slcommon⟩)
    (ccommon : PySem.W.codeIn K cdcommon "common" = true) (kcommon : PySem.W.keepIn K (.ref fcommon) = true)
    (amade : PySem.W.nsIn K mainGlobals "made" = some (some (.ref fmade)))
    (lmade : K.lookup fmade = some ⟨ocmade, odmade, .func (PySem.W.fnOf "made" "made" (defArgs s_made) (defBody s_made) (defScope s_made) .none kVmade dcmade pmmade anmade cdmade ctmade), slmade⟩)
    (cmade : PySem.W.codeIn K cdmade "made" = true) (kmade : PySem.W.keepIn K (.ref fmade) = true)
    (aas_form : PySem.W.nsIn K mainGlobals "as_form" = some (some (.ref fas_form)))
    (las_form : K.lookup fas_form = some ⟨ocas_form, odas_form, .func (PySem.W.fnOf "as_form" "as_form" (defArgs s_as_form) (defBody s_as_form) (defScope s_as_form) .none kVas_form dcas_form pmas_form anas_form cdas_form ctas_form), slas_form⟩)
    (cas_form : PySem.W.codeIn K cdas_form "as_form" = true) (kas_form : PySem.W.keepIn K (.ref fas_form) = true)
    (aForm___init : PySem.W.findIn K (.ref CForm) "__init__" = some (some (.ref fForm___init)))
    (lForm___init : K.lookup fForm___init = some ⟨ocForm___init, odForm___init, .func (PySem.W.fnOf "__init__" "Form.__init__" (defArgs s_Form___init) (defBody s_Form___init) (defScope s_Form___init) .none kVForm___init dcForm___init pmForm___init anForm___init cdForm___init ctForm___init), slForm___init⟩)
    (cForm___init : PySem.W.codeIn K cdForm___init "Form.__init__" = true) (kForm___init : PySem.W.keepIn K (.ref fForm___init) = true)
    (aForm___add : PySem.W.findIn K (.ref CForm) "__add__" = some (some (.ref fForm___add)))
    (lForm___add : K.lookup fForm___add = some ⟨ocForm___add, odForm___add, .func (PySem.W.fnOf "__add__" "Form.__add__" (defArgs s_Form___add) (defBody s_Form___add) (defScope s_Form___add) .none kVForm___add dcForm___add pmForm___add anForm___add cdForm___add ctForm___add), slForm___add⟩)
    (cForm___add : PySem.W.codeIn K cdForm___add "Form.__add__" = true) (kForm___add : PySem.W.keepIn K (.ref fForm___add) = true)
    (aForm___neg : PySem.W.findIn K (.ref CForm) "__neg__" = some (some (.ref fForm___neg)))
    (lForm___neg : K.lookup fForm___neg = some ⟨ocForm___neg, odForm___neg, .func (PySem.W.fnOf "__neg__" "Form.__neg__" (defArgs s_Form___neg) (defBody s_Form___neg) (defScope s_Form___neg) .none kVForm___neg dcForm___neg pmForm___neg anForm___neg cdForm___neg ctForm___neg), slForm___neg⟩)
    (cForm___neg : PySem.W.codeIn K cdForm___neg "Form.__neg__" = true) (kForm___neg : PySem.W.keepIn K (.ref fForm___neg) = true)
    (aForm___sub : PySem.W.findIn K (.ref CForm) "__sub__" = some (some (.ref fForm___sub)))
    (lForm___sub : K.lookup fForm___sub = some ⟨ocForm___sub, odForm___sub, .func (PySem.W.fnOf "__sub__" "Form.__sub__" (defArgs s_Form___sub) (defBody s_Form___sub) (defScope s_Form___sub) .none kVForm___sub dcForm___sub pmForm___sub anForm___sub cdForm___sub ctForm___sub), slForm___sub⟩)
    (cForm___sub : PySem.W.codeIn K cdForm___sub "Form.__sub__" = true) (kForm___sub : PySem.W.keepIn K (.ref fForm___sub) = true)
    (aForm___mul : PySem.W.findIn K (.ref CForm) "__mul__" = some (some (.ref fForm___mul)))
    (lForm___mul : K.lookup fForm___mul = some ⟨ocForm___mul, odForm___mul, .func (PySem.W.fnOf "__mul__" "Form.__mul__" (defArgs s_Form___mul) (defBody s_Form___mul) (defScope s_Form___mul) .none kVForm___mul dcForm___mul pmForm___mul anForm___mul cdForm___mul ctForm___mul), slForm___mul⟩)
    (cForm___mul : PySem.W.codeIn K cdForm___mul "Form.__mul__" = true) (kForm___mul : PySem.W.keepIn K (.ref fForm___mul) = true)
    (aForm_over : PySem.W.findIn K (.ref CForm) "over" = some (some (.ref fForm_over)))
    (lForm_over : K.lookup fForm_over = some ⟨ocForm_over, odForm_over, .func (PySem.W.fnOf "over" "Form.over" (defArgs s_Form_over) (defBody s_Form_over) (defScope s_Form_over) .none kVForm_over dcForm_over pmForm_over anForm_over cdForm_over ctForm_over), slForm_over⟩)
    (cForm_over : PySem.W.codeIn K cdForm_over "Form.over" = true) (kForm_over : PySem.W.keepIn K (.ref fForm_over) = true)
    (aForm_letters : PySem.W.findIn K (.ref CForm) "letters" = some (some (.ref fForm_letters)))
    (lForm_letters : K.lookup fForm_letters = some ⟨ocForm_letters, odForm_letters, .func (PySem.W.fnOf "letters" "Form.letters" (defArgs s_Form_letters) (defBody s_Form_letters) (defScope s_Form_letters) .none kVForm_letters dcForm_letters pmForm_letters anForm_letters cdForm_letters ctForm_letters), slForm_letters⟩)
    (cForm_letters : PySem.W.codeIn K cdForm_letters "Form.letters" = true) (kForm_letters : PySem.W.keepIn K (.ref fForm_letters) = true)
    (aForm_above : PySem.W.findIn K (.ref CForm) "above" = some (some (.ref fForm_above)))
    (lForm_above : K.lookup fForm_above = some ⟨ocForm_above, odForm_above, .func (PySem.W.fnOf "above" "Form.above" (defArgs s_Form_above) (defBody s_Form_above) (defScope s_Form_above) .none kVForm_above dcForm_above pmForm_above anForm_above cdForm_above ctForm_above), slForm_above⟩)
    (cForm_above : PySem.W.codeIn K cdForm_above "Form.above" = true) (kForm_above : PySem.W.keepIn K (.ref fForm_above) = true)
    (aForm_at : PySem.W.findIn K (.ref CForm) "at" = some (some (.ref fForm_at)))
    (lForm_at : K.lookup fForm_at = some ⟨ocForm_at, odForm_at, .func (PySem.W.fnOf "at" "Form.at" (defArgs s_Form_at) (defBody s_Form_at) (defScope s_Form_at) .none kVForm_at dcForm_at pmForm_at anForm_at cdForm_at ctForm_at), slForm_at⟩)
    (cForm_at : PySem.W.codeIn K cdForm_at "Form.at" = true) (kForm_at : PySem.W.keepIn K (.ref fForm_at) = true)
    (aletter : PySem.W.nsIn K mainGlobals "letter" = some (some (.ref fletter)))
    (lletter : K.lookup fletter = some ⟨ocletter, odletter, .func (PySem.W.fnOf "letter" "letter" (defArgs s_letter) (defBody s_letter) (defScope s_letter) .none kVletter dcletter pmletter anletter cdletter ctletter), slletter⟩)
    (cletter : PySem.W.codeIn K cdletter "letter" = true) (kletter : PySem.W.keepIn K (.ref fletter) = true)
    (anumber : PySem.W.nsIn K mainGlobals "number" = some (some (.ref fnumber)))
    (lnumber : K.lookup fnumber = some ⟨ocnumber, odnumber, .func (PySem.W.fnOf "number" "number" (defArgs s_number) (defBody s_number) (defScope s_number) .none kVnumber dcnumber pmnumber annumber cdnumber ctnumber), slnumber⟩)
    (cnumber : PySem.W.codeIn K cdnumber "number" = true) (knumber : PySem.W.keepIn K (.ref fnumber) = true)
    (alaw_purse : PySem.W.nsIn K mainGlobals "_law_purse" = some (some (.ref flaw_purse)))
    (llaw_purse : K.lookup flaw_purse = some ⟨oclaw_purse, odlaw_purse, .func (PySem.W.fnOf "_law_purse" "_law_purse" (defArgs s_law_purse) (defBody s_law_purse) (defScope s_law_purse) .none kVlaw_purse dclaw_purse pmlaw_purse anlaw_purse cdlaw_purse ctlaw_purse), sllaw_purse⟩)
    (claw_purse : PySem.W.codeIn K cdlaw_purse "_law_purse" = true) (klaw_purse : PySem.W.keepIn K (.ref flaw_purse) = true)
    (alaw_mixed : PySem.W.nsIn K mainGlobals "_law_mixed" = some (some (.ref flaw_mixed)))
    (llaw_mixed : K.lookup flaw_mixed = some ⟨oclaw_mixed, odlaw_mixed, .func (PySem.W.fnOf "_law_mixed" "_law_mixed" (defArgs s_law_mixed) (defBody s_law_mixed) (defScope s_law_mixed) .none kVlaw_mixed dclaw_mixed pmlaw_mixed anlaw_mixed cdlaw_mixed ctlaw_mixed), sllaw_mixed⟩)
    (claw_mixed : PySem.W.codeIn K cdlaw_mixed "_law_mixed" = true) (klaw_mixed : PySem.W.keepIn K (.ref flaw_mixed) = true)
    (alaw_draw : PySem.W.nsIn K mainGlobals "_law_draw" = some (some (.ref flaw_draw)))
    (llaw_draw : K.lookup flaw_draw = some ⟨oclaw_draw, odlaw_draw, .func (PySem.W.fnOf "_law_draw" "_law_draw" (defArgs s_law_draw) (defBody s_law_draw) (defScope s_law_draw) .none kVlaw_draw dclaw_draw pmlaw_draw anlaw_draw cdlaw_draw ctlaw_draw), sllaw_draw⟩)
    (claw_draw : PySem.W.codeIn K cdlaw_draw "_law_draw" = true) (klaw_draw : PySem.W.keepIn K (.ref flaw_draw) = true)
    (alaw_purses : PySem.W.nsIn K mainGlobals "_law_purses" = some (some (.ref flaw_purses)))
    (llaw_purses : K.lookup flaw_purses = some ⟨oclaw_purses, odlaw_purses, .func (PySem.W.fnOf "_law_purses" "_law_purses" (defArgs s_law_purses) (defBody s_law_purses) (defScope s_law_purses) .none kVlaw_purses dclaw_purses pmlaw_purses anlaw_purses cdlaw_purses ctlaw_purses), sllaw_purses⟩)
    (claw_purses : PySem.W.codeIn K cdlaw_purses "_law_purses" = true) (klaw_purses : PySem.W.keepIn K (.ref flaw_purses) = true)
    (alaw_one_of : PySem.W.nsIn K mainGlobals "_law_one_of" = some (some (.ref flaw_one_of)))
    (llaw_one_of : K.lookup flaw_one_of = some ⟨oclaw_one_of, odlaw_one_of, .func (PySem.W.fnOf "_law_one_of" "_law_one_of" (defArgs s_law_one_of) (defBody s_law_one_of) (defScope s_law_one_of) .none kVlaw_one_of dclaw_one_of pmlaw_one_of anlaw_one_of cdlaw_one_of ctlaw_one_of), sllaw_one_of⟩)
    (claw_one_of : PySem.W.codeIn K cdlaw_one_of "_law_one_of" = true) (klaw_one_of : PySem.W.keepIn K (.ref flaw_one_of) = true)
    (alaw_tree : PySem.W.nsIn K mainGlobals "_law_tree" = some (some (.ref flaw_tree)))
    (llaw_tree : K.lookup flaw_tree = some ⟨oclaw_tree, odlaw_tree, .func (PySem.W.fnOf "_law_tree" "_law_tree" (defArgs s_law_tree) (defBody s_law_tree) (defScope s_law_tree) .none kVlaw_tree dclaw_tree pmlaw_tree anlaw_tree cdlaw_tree ctlaw_tree), sllaw_tree⟩)
    (claw_tree : PySem.W.codeIn K cdlaw_tree "_law_tree" = true) (klaw_tree : PySem.W.keepIn K (.ref flaw_tree) = true)
    (alaw_worth : PySem.W.nsIn K mainGlobals "_law_worth" = some (some (.ref flaw_worth)))
    (llaw_worth : K.lookup flaw_worth = some ⟨oclaw_worth, odlaw_worth, .func (PySem.W.fnOf "_law_worth" "_law_worth" (defArgs s_law_worth) (defBody s_law_worth) (defScope s_law_worth) .none kVlaw_worth dclaw_worth pmlaw_worth anlaw_worth cdlaw_worth ctlaw_worth), sllaw_worth⟩)
    (claw_worth : PySem.W.codeIn K cdlaw_worth "_law_worth" = true) (klaw_worth : PySem.W.keepIn K (.ref flaw_worth) = true)
    (alaw_form : PySem.W.nsIn K mainGlobals "_law_form" = some (some (.ref flaw_form)))
    (llaw_form : K.lookup flaw_form = some ⟨oclaw_form, odlaw_form, .func (PySem.W.fnOf "_law_form" "_law_form" (defArgs s_law_form) (defBody s_law_form) (defScope s_law_form) .none kVlaw_form dclaw_form pmlaw_form anlaw_form cdlaw_form ctlaw_form), sllaw_form⟩)
    (claw_form : PySem.W.codeIn K cdlaw_form "_law_form" = true) (klaw_form : PySem.W.keepIn K (.ref flaw_form) = true)
    (alaw_whole_at : PySem.W.nsIn K mainGlobals "_law_whole_at" = some (some (.ref flaw_whole_at)))
    (llaw_whole_at : K.lookup flaw_whole_at = some ⟨oclaw_whole_at, odlaw_whole_at, .func (PySem.W.fnOf "_law_whole_at" "_law_whole_at" (defArgs s_law_whole_at) (defBody s_law_whole_at) (defScope s_law_whole_at) .none kVlaw_whole_at dclaw_whole_at pmlaw_whole_at anlaw_whole_at cdlaw_whole_at ctlaw_whole_at), sllaw_whole_at⟩)
    (claw_whole_at : PySem.W.codeIn K cdlaw_whole_at "_law_whole_at" = true) (klaw_whole_at : PySem.W.keepIn K (.ref flaw_whole_at) = true)
    (alaw_values : PySem.W.nsIn K mainGlobals "_law_values" = some (some (.ref flaw_values)))
    (llaw_values : K.lookup flaw_values = some ⟨oclaw_values, odlaw_values, .func (PySem.W.fnOf "_law_values" "_law_values" (defArgs s_law_values) (defBody s_law_values) (defScope s_law_values) .none kVlaw_values dclaw_values pmlaw_values anlaw_values cdlaw_values ctlaw_values), sllaw_values⟩)
    (claw_values : PySem.W.codeIn K cdlaw_values "_law_values" = true) (klaw_values : PySem.W.keepIn K (.ref flaw_values) = true)
    (alaw_names : PySem.W.nsIn K mainGlobals "_law_names" = some (some (.ref flaw_names)))
    (llaw_names : K.lookup flaw_names = some ⟨oclaw_names, odlaw_names, .func (PySem.W.fnOf "_law_names" "_law_names" (defArgs s_law_names) (defBody s_law_names) (defScope s_law_names) .none kVlaw_names dclaw_names pmlaw_names anlaw_names cdlaw_names ctlaw_names), sllaw_names⟩)
    (claw_names : PySem.W.codeIn K cdlaw_names "_law_names" = true) (klaw_names : PySem.W.keepIn K (.ref flaw_names) = true)
    (alaw_right : PySem.W.nsIn K mainGlobals "_law_right" = some (some (.ref flaw_right)))
    (llaw_right : K.lookup flaw_right = some ⟨oclaw_right, odlaw_right, .func (PySem.W.fnOf "_law_right" "_law_right" (defArgs s_law_right) (defBody s_law_right) (defScope s_law_right) .none kVlaw_right dclaw_right pmlaw_right anlaw_right cdlaw_right ctlaw_right), sllaw_right⟩)
    (claw_right : PySem.W.codeIn K cdlaw_right "_law_right" = true) (klaw_right : PySem.W.keepIn K (.ref flaw_right) = true)
    (alaw_mixed_right : PySem.W.nsIn K mainGlobals "_law_mixed_right" = some (some (.ref flaw_mixed_right)))
    (llaw_mixed_right : K.lookup flaw_mixed_right = some ⟨oclaw_mixed_right, odlaw_mixed_right, .func (PySem.W.fnOf "_law_mixed_right" "_law_mixed_right" (defArgs s_law_mixed_right) (defBody s_law_mixed_right) (defScope s_law_mixed_right) .none kVlaw_mixed_right dclaw_mixed_right pmlaw_mixed_right anlaw_mixed_right cdlaw_mixed_right ctlaw_mixed_right), sllaw_mixed_right⟩)
    (claw_mixed_right : PySem.W.codeIn K cdlaw_mixed_right "_law_mixed_right" = true) (klaw_mixed_right : PySem.W.keepIn K (.ref flaw_mixed_right) = true)
    (alaw : PySem.W.nsIn K mainGlobals "law" = some (some (.ref flaw)))
    (llaw : K.lookup flaw = some ⟨oclaw, odlaw, .func (PySem.W.fnOf "law" "law" (defArgs s_law) (defBody s_law) (defScope s_law) .none kVlaw dclaw pmlaw anlaw cdlaw ctlaw), sllaw⟩)
    (claw : PySem.W.codeIn K cdlaw "law" = true) (klaw : PySem.W.keepIn K (.ref flaw) = true)
    (aCForm : PySem.W.nsIn K mainGlobals "Form" = some (some (.ref CForm)))
    (pgForm : PySem.W.plainGet K CForm Str.empty = true)
    (hdForm : PySem.W.hasDictIn K CForm = true)
    (poForm : PySem.W.plainOver K CForm = true)
    (saForm : PySem.W.findIn K (.ref CForm) "__setattr__" = some (some (.builtin "object.__setattr__")))
    (caForm : PySem.W.findIn K (.ref CForm) "__class__" = some (some (.builtin "object.__class__")))
    (cbForm : PySem.W.specialIn K (.builtin "object.__class__") "__get__" = some (some (.builtin "getset_descriptor.__get__")))
    (ccForm : PySem.W.takesIn K (.builtin "object.__class__") = some true)
    (cdForm : PySem.W.mroIn K CForm (.type "object") = some true)
    (sfForm : PySem.W.selfFirst K CForm = true)
    (iiForm : PySem.W.kitOne K (.ref CForm) (.type "int") = some false)
    (zaForm___add : PySem.W.findIn K (.ref CForm) "__radd__" = some none)
    (zbForm___add : PySem.W.findIn K (.type "int") "__add__" = some (some (.builtin "int.__add__")))
    (zcForm___add : PySem.W.findIn K (.type "int") "__radd__" = some (some (.builtin "int.__radd__")))
    (zdForm___add : PySem.W.subIn K (.type "int") (.ref CForm) = some false)
    (zaForm___sub : PySem.W.findIn K (.ref CForm) "__rsub__" = some none)
    (zbForm___sub : PySem.W.findIn K (.type "int") "__sub__" = some (some (.builtin "int.__sub__")))
    (zcForm___sub : PySem.W.findIn K (.type "int") "__rsub__" = some (some (.builtin "int.__rsub__")))
    (zdForm___sub : PySem.W.subIn K (.type "int") (.ref CForm) = some false)
    (zaForm___mul : PySem.W.findIn K (.ref CForm) "__rmul__" = some none)
    (zbForm___mul : PySem.W.findIn K (.type "int") "__mul__" = some (some (.builtin "int.__mul__")))
    (zcForm___mul : PySem.W.findIn K (.type "int") "__rmul__" = some (some (.builtin "int.__rmul__")))
    (zdForm___mul : PySem.W.subIn K (.type "int") (.ref CForm) = some false)
    (noFormrows : PySem.W.findIn K (.ref CForm) "rows" = some none)
    (noFormunder : PySem.W.findIn K (.ref CForm) "under" = some none)
    (iForm___init : PySem.W.isFn K (.ref fForm___init) = true)
    (mkForm : PySem.W.makesIn K CForm = true)
    (kcForm : PySem.W.keepIn K (.ref CForm) = true)
    (iForm___add : PySem.W.isFn K (.ref fForm___add) = true)
    (iForm___neg : PySem.W.isFn K (.ref fForm___neg) = true)
    (iForm___sub : PySem.W.isFn K (.ref fForm___sub) = true)
    (iForm___mul : PySem.W.isFn K (.ref fForm___mul) = true)
    (iForm_over : PySem.W.isFn K (.ref fForm_over) = true)
    (iForm_letters : PySem.W.isFn K (.ref fForm_letters) = true)
    (iForm_above : PySem.W.isFn K (.ref fForm_above) = true)
    (iForm_at : PySem.W.isFn K (.ref fForm_at) = true)
    (nabs : PySem.W.nsIn K mainGlobals "abs" = some none)
    (nbool : PySem.W.nsIn K mainGlobals "bool" = some none)
    (ndict : PySem.W.nsIn K mainGlobals "dict" = some none)
    (nint : PySem.W.nsIn K mainGlobals "int" = some none)
    (nisinstance : PySem.W.nsIn K mainGlobals "isinstance" = some none)
    (nlen : PySem.W.nsIn K mainGlobals "len" = some none)
    (nmax : PySem.W.nsIn K mainGlobals "max" = some none)
    (nmin : PySem.W.nsIn K mainGlobals "min" = some none)
    (nrange : PySem.W.nsIn K mainGlobals "range" = some none)
    (nsorted : PySem.W.nsIn K mainGlobals "sorted" = some none)
    (nstr : PySem.W.nsIn K mainGlobals "str" = some none)
    (nsum : PySem.W.nsIn K mainGlobals "sum" = some none)
    (ntuple : PySem.W.nsIn K mainGlobals "tuple" = some none)
    (aKSMALL : PySem.W.nsIn K mainGlobals "SMALL" = some (some (.str "abcdefghijklmnopqrstuvwxyz" tkSMALL)))
    : ∃ fd : FuncData, (∀ (s : Shared) (v : Value), BindsTo s fd ⟨[v], []⟩ [("_law_script", v)]) ∧ ∀ base : Heap, K.In base → base.Ns mainGlobals mg → FnOk l.prog w K mg base CX0 14 fa fd ["_law_script"] (sp_top K) := by
  have e := hfa.symm.trans (PySem.W.mg_of X G alaw)
  cases e
  let T : Txt K mg := {
    a_is_whole := fis_whole, fd_is_whole := _,
    F_is_whole := fun_mk (st := s_is_whole) lis_whole cis_whole kis_whole,
    m_is_whole := PySem.W.mg_of X G ais_whole,
    a_is_letter := fis_letter, fd_is_letter := _,
    F_is_letter := fun_mk (st := s_is_letter) lis_letter cis_letter kis_letter,
    m_is_letter := PySem.W.mg_of X G ais_letter,
    a_check_letter := fcheck_letter, fd_check_letter := _,
    F_check_letter := fun_mk (st := s_check_letter) lcheck_letter ccheck_letter kcheck_letter,
    m_check_letter := PySem.W.mg_of X G acheck_letter,
    a_check_form := fcheck_form, fd_check_form := _,
    F_check_form := fun_mk (st := s_check_form) lcheck_form ccheck_form kcheck_form,
    m_check_form := PySem.W.mg_of X G acheck_form,
    a_are_values := fare_values, fd_are_values := _,
    F_are_values := fun_mk (st := s_are_values) lare_values care_values kare_values,
    m_are_values := PySem.W.mg_of X G aare_values,
    a_common := fcommon, fd_common := _,
    F_common := fun_mk (st := s_common) lcommon ccommon kcommon,
    m_common := PySem.W.mg_of X G acommon,
    a_made := fmade, fd_made := _,
    F_made := fun_mk (st := s_made) lmade cmade kmade,
    m_made := PySem.W.mg_of X G amade,
    a_as_form := fas_form, fd_as_form := _,
    F_as_form := fun_mk (st := s_as_form) las_form cas_form kas_form,
    m_as_form := PySem.W.mg_of X G aas_form,
    a_Form___init := fForm___init, fd_Form___init := _,
    F_Form___init := fun_mk (st := s_Form___init) lForm___init cForm___init kForm___init,
    a_Form___add := fForm___add, fd_Form___add := _,
    F_Form___add := fun_mk (st := s_Form___add) lForm___add cForm___add kForm___add,
    a_Form___neg := fForm___neg, fd_Form___neg := _,
    F_Form___neg := fun_mk (st := s_Form___neg) lForm___neg cForm___neg kForm___neg,
    a_Form___sub := fForm___sub, fd_Form___sub := _,
    F_Form___sub := fun_mk (st := s_Form___sub) lForm___sub cForm___sub kForm___sub,
    a_Form___mul := fForm___mul, fd_Form___mul := _,
    F_Form___mul := fun_mk (st := s_Form___mul) lForm___mul cForm___mul kForm___mul,
    a_Form_over := fForm_over, fd_Form_over := _,
    F_Form_over := fun_mk (st := s_Form_over) lForm_over cForm_over kForm_over,
    a_Form_letters := fForm_letters, fd_Form_letters := _,
    F_Form_letters := fun_mk (st := s_Form_letters) lForm_letters cForm_letters kForm_letters,
    a_Form_above := fForm_above, fd_Form_above := _,
    F_Form_above := fun_mk (st := s_Form_above) lForm_above cForm_above kForm_above,
    a_Form_at := fForm_at, fd_Form_at := _,
    F_Form_at := fun_mk (st := s_Form_at) lForm_at cForm_at kForm_at,
    a_letter := fletter, fd_letter := _,
    F_letter := fun_mk (st := s_letter) lletter cletter kletter,
    m_letter := PySem.W.mg_of X G aletter,
    a_number := fnumber, fd_number := _,
    F_number := fun_mk (st := s_number) lnumber cnumber knumber,
    m_number := PySem.W.mg_of X G anumber,
    a_law_purse := flaw_purse, fd_law_purse := _,
    F_law_purse := fun_mk (st := s_law_purse) llaw_purse claw_purse klaw_purse,
    m__law_purse := PySem.W.mg_of X G alaw_purse,
    a_law_mixed := flaw_mixed, fd_law_mixed := _,
    F_law_mixed := fun_mk (st := s_law_mixed) llaw_mixed claw_mixed klaw_mixed,
    m__law_mixed := PySem.W.mg_of X G alaw_mixed,
    a_law_draw := flaw_draw, fd_law_draw := _,
    F_law_draw := fun_mk (st := s_law_draw) llaw_draw claw_draw klaw_draw,
    m__law_draw := PySem.W.mg_of X G alaw_draw,
    a_law_purses := flaw_purses, fd_law_purses := _,
    F_law_purses := fun_mk (st := s_law_purses) llaw_purses claw_purses klaw_purses,
    m__law_purses := PySem.W.mg_of X G alaw_purses,
    a_law_one_of := flaw_one_of, fd_law_one_of := _,
    F_law_one_of := fun_mk (st := s_law_one_of) llaw_one_of claw_one_of klaw_one_of,
    m__law_one_of := PySem.W.mg_of X G alaw_one_of,
    a_law_tree := flaw_tree, fd_law_tree := _,
    F_law_tree := fun_mk (st := s_law_tree) llaw_tree claw_tree klaw_tree,
    m__law_tree := PySem.W.mg_of X G alaw_tree,
    a_law_worth := flaw_worth, fd_law_worth := _,
    F_law_worth := fun_mk (st := s_law_worth) llaw_worth claw_worth klaw_worth,
    m__law_worth := PySem.W.mg_of X G alaw_worth,
    a_law_form := flaw_form, fd_law_form := _,
    F_law_form := fun_mk (st := s_law_form) llaw_form claw_form klaw_form,
    m__law_form := PySem.W.mg_of X G alaw_form,
    a_law_whole_at := flaw_whole_at, fd_law_whole_at := _,
    F_law_whole_at := fun_mk (st := s_law_whole_at) llaw_whole_at claw_whole_at klaw_whole_at,
    m__law_whole_at := PySem.W.mg_of X G alaw_whole_at,
    a_law_values := flaw_values, fd_law_values := _,
    F_law_values := fun_mk (st := s_law_values) llaw_values claw_values klaw_values,
    m__law_values := PySem.W.mg_of X G alaw_values,
    a_law_names := flaw_names, fd_law_names := _,
    F_law_names := fun_mk (st := s_law_names) llaw_names claw_names klaw_names,
    m__law_names := PySem.W.mg_of X G alaw_names,
    a_law_right := flaw_right, fd_law_right := _,
    F_law_right := fun_mk (st := s_law_right) llaw_right claw_right klaw_right,
    m__law_right := PySem.W.mg_of X G alaw_right,
    a_law_mixed_right := flaw_mixed_right, fd_law_mixed_right := _,
    F_law_mixed_right := fun_mk (st := s_law_mixed_right) llaw_mixed_right claw_mixed_right klaw_mixed_right,
    m__law_mixed_right := PySem.W.mg_of X G alaw_mixed_right,
    a_law := fa, fd_law := _,
    F_law := fun_mk (st := s_law) llaw claw klaw,
    m_law := PySem.W.mg_of X G alaw,
    a_Form := CForm, m_Form := PySem.W.mg_of X G aCForm,
    c_Form := ⟨pgForm, hdForm, poForm, saForm⟩,
    I_Form := ⟨⟨pgForm, hdForm, poForm, saForm⟩, caForm, cbForm, ccForm, cdForm⟩,
    S_Form := ⟨sfForm, iiForm⟩,
    Z_Form___add := ⟨zaForm___add, zbForm___add, zcForm___add, zdForm___add⟩,
    Z_Form___sub := ⟨zaForm___sub, zbForm___sub, zcForm___sub, zdForm___sub⟩,
    Z_Form___mul := ⟨zaForm___mul, zbForm___mul, zcForm___mul, zdForm___mul⟩,
    n_Form_rows := noFormrows,
    n_Form_under := noFormunder,
    k_Form := ⟨mkForm, aForm___init, iForm___init, kcForm⟩,
    M_Form___add := ⟨aForm___add, iForm___add, kForm___add⟩,
    M_Form___neg := ⟨aForm___neg, iForm___neg, kForm___neg⟩,
    M_Form___sub := ⟨aForm___sub, iForm___sub, kForm___sub⟩,
    M_Form___mul := ⟨aForm___mul, iForm___mul, kForm___mul⟩,
    M_Form_over := ⟨aForm_over, iForm_over, kForm_over⟩,
    M_Form_letters := ⟨aForm_letters, iForm_letters, kForm_letters⟩,
    M_Form_above := ⟨aForm_above, iForm_above, kForm_above⟩,
    M_Form_at := ⟨aForm_at, iForm_at, kForm_at⟩,
    n_abs := PySem.W.mg_none_of X G nabs,
    n_bool := PySem.W.mg_none_of X G nbool,
    n_dict := PySem.W.mg_none_of X G ndict,
    n_int := PySem.W.mg_none_of X G nint,
    n_isinstance := PySem.W.mg_none_of X G nisinstance,
    n_len := PySem.W.mg_none_of X G nlen,
    n_max := PySem.W.mg_none_of X G nmax,
    n_min := PySem.W.mg_none_of X G nmin,
    n_range := PySem.W.mg_none_of X G nrange,
    n_sorted := PySem.W.mg_none_of X G nsorted,
    n_str := PySem.W.mg_none_of X G nstr,
    n_sum := PySem.W.mg_none_of X G nsum,
    n_tuple := PySem.W.mg_none_of X G ntuple,
    u_SMALL := _, m_SMALL := ⟨PySem.W.mg_of X G aKSMALL, ⟨_, rfl⟩⟩ }
  exact ⟨PySem.W.fnOf "law" "law" (defArgs s_law) (defBody s_law) (defScope s_law) .none kVlaw dclaw pmlaw anlaw cdlaw ctlaw, fun s v => .of_eq rfl, fun base _ _ => (ok_law T).imp fun vs H Q E z => sp_law_top T vs H Q E z⟩
theorem walk {l : PySem.W.OpenLaw} {q : Program} {loose : List Str} {XP : (Str → Option Value) → Heap → Prop} {YP : World → Heap → Prop} {d : DefRec} {K : Params → PySem.W.Frag} (hn : l.most = some 63) (hdf : d.params.defaults = [])
    (hY : ∀ (w : World) (h : Heap), YP w h → (K w.params).In h)
    (F : ∀ (w : World) (mg : Str → Option Value) (fa : Addr) (h : Heap), (K w.params).In h → h.Ns mainGlobals mg → mg d.name = some (.ref fa) →
      ∃ fd : FuncData, (∀ (s : Shared) (u : Value), BindsTo s fd ⟨[u], []⟩ [("_law_script", u)]) ∧ ∀ base : Heap, (K w.params).In base → base.Ns mainGlobals mg → FnOk l.prog w (K w.params) mg base CX0 14 fa fd ["_law_script"] (sp_top (K w.params))) :
    PySem.W.WalkO q loose XP YP l.row.toRowW d [] (fun f vs => PySem.call f vs) :=
  L2.walk_of (n := 63) (k := 14) (x := "_law_script") (CX := fun _ => CX0) (sp := fun w => sp_top (K w.params)) hn (by decide) hdf ⟨rfl, by decide, by decide⟩ hY F (fun _ _ a ns hl _ hS => ⟨a, ns, rfl, hS, hl, fun _ => rfl⟩) fun _ _ _ _ _ z => z
end CP
open PySem PySem.W PyProof.Rows
set_option maxRecDepth 100000 in
set_option maxHeartbeats 0 in
theorem PySem.Challenge.cw_cellplaces_k02_forms_worked_out_holds : PySem.Challenge.rw_cellplaces_k02_forms_worked_out.Holds := by
  w_on; o_law; k_head; (case hw => w_witness2)
  k_fill
  refine CP.walk (l := PySem.Challenge.rw_cellplaces_k02_forms_worked_out) rfl rfl (fun w h Y => PySem.W.kIn_of Y) ?F
  case F =>
    intro w mg fa h KX G hmg
    refine' CP.all_mk KX G hmg ?ais_whole ?lis_whole ?cis_whole ?kis_whole ?ais_letter ?lis_letter ?cis_letter ?kis_letter ?acheck_letter ?lcheck_letter ?ccheck_letter ?kcheck_letter ?acheck_form ?lcheck_form ?ccheck_form ?kcheck_form ?aare_values ?lare_values ?care_values ?kare_values ?acommon ?lcommon ?ccommon ?kcommon ?amade ?lmade ?cmade ?kmade ?aas_form ?las_form ?cas_form ?kas_form ?aForm___init ?lForm___init ?cForm___init ?kForm___init ?aForm___add ?lForm___add ?cForm___add ?kForm___add ?aForm___neg ?lForm___neg ?cForm___neg ?kForm___neg ?aForm___sub ?lForm___sub ?cForm___sub ?kForm___sub ?aForm___mul ?lForm___mul ?cForm___mul ?kForm___mul ?aForm_over ?lForm_over ?cForm_over ?kForm_over ?aForm_letters ?lForm_letters ?cForm_letters ?kForm_letters ?aForm_above ?lForm_above ?cForm_above ?kForm_above ?aForm_at ?lForm_at ?cForm_at ?kForm_at ?aletter ?lletter ?cletter ?kletter ?anumber ?lnumber ?cnumber ?knumber ?alaw_purse ?llaw_purse ?claw_purse ?klaw_purse ?alaw_mixed ?llaw_mixed ?claw_mixed ?klaw_mixed ?alaw_draw ?llaw_draw ?claw_draw ?klaw_draw ?alaw_purses ?llaw_purses ?claw_purses ?klaw_purses ?alaw_one_of ?llaw_one_of ?claw_one_of ?klaw_one_of ?alaw_tree ?llaw_tree ?claw_tree ?klaw_tree ?alaw_worth ?llaw_worth ?claw_worth ?klaw_worth ?alaw_form ?llaw_form ?claw_form ?klaw_form ?alaw_whole_at ?llaw_whole_at ?claw_whole_at ?klaw_whole_at ?alaw_values ?llaw_values ?claw_values ?klaw_values ?alaw_names ?llaw_names ?claw_names ?klaw_names ?alaw_right ?llaw_right ?claw_right ?klaw_right ?alaw_mixed_right ?llaw_mixed_right ?claw_mixed_right ?klaw_mixed_right ?alaw ?llaw ?claw ?klaw ?aCForm ?pgForm ?hdForm ?poForm ?saForm ?caForm ?cbForm ?ccForm ?cdForm ?sfForm ?iiForm ?zaForm___add ?zbForm___add ?zcForm___add ?zdForm___add ?zaForm___sub ?zbForm___sub ?zcForm___sub ?zdForm___sub ?zaForm___mul ?zbForm___mul ?zcForm___mul ?zdForm___mul ?noFormrows ?noFormunder ?iForm___init ?mkForm ?kcForm ?iForm___add ?iForm___neg ?iForm___sub ?iForm___mul ?iForm_over ?iForm_letters ?iForm_above ?iForm_at ?nabs ?nbool ?ndict ?nint ?nisinstance ?nlen ?nmax ?nmin ?nrange ?nsorted ?nstr ?nsum ?ntuple ?aKSMALL
    (case aCForm => k_is)
    (case ais_whole => k_is)
    (case lis_whole => k_is)
    (case cis_whole => k_is)
    (case kis_whole => k_is)
    (case ais_letter => k_is)
    (case lis_letter => k_is)
    (case cis_letter => k_is)
    (case kis_letter => k_is)
    (case acheck_letter => k_is)
    (case lcheck_letter => k_is)
    (case ccheck_letter => k_is)
    (case kcheck_letter => k_is)
    (case acheck_form => k_is)
    (case lcheck_form => k_is)
    (case ccheck_form => k_is)
    (case kcheck_form => k_is)
    (case aare_values => k_is)
    (case lare_values => k_is)
    (case care_values => k_is)
    (case kare_values => k_is)
    (case acommon => k_is)
    (case lcommon => k_is)
    (case ccommon => k_is)
    (case kcommon => k_is)
    (case amade => k_is)
    (case lmade => k_is)
    (case cmade => k_is)
    (case kmade => k_is)
    (case aas_form => k_is)
    (case las_form => k_is)
    (case cas_form => k_is)
    (case kas_form => k_is)
    (case aForm___init => k_is)
    (case lForm___init => k_is)
    (case cForm___init => k_is)
    (case kForm___init => k_is)
    (case aForm___add => k_is)
    (case lForm___add => k_is)
    (case cForm___add => k_is)
    (case kForm___add => k_is)
    (case aForm___neg => k_is)
    (case lForm___neg => k_is)
    (case cForm___neg => k_is)
    (case kForm___neg => k_is)
    (case aForm___sub => k_is)
    (case lForm___sub => k_is)
    (case cForm___sub => k_is)
    (case kForm___sub => k_is)
    (case aForm___mul => k_is)
    (case lForm___mul => k_is)
    (case cForm___mul => k_is)
    (case kForm___mul => k_is)
    (case aForm_over => k_is)
    (case lForm_over => k_is)
    (case cForm_over => k_is)
    (case kForm_over => k_is)
    (case aForm_letters => k_is)
    (case lForm_letters => k_is)
    (case cForm_letters => k_is)
    (case kForm_letters => k_is)
    (case aForm_above => k_is)
    (case lForm_above => k_is)
    (case cForm_above => k_is)
    (case kForm_above => k_is)
    (case aForm_at => k_is)
    (case lForm_at => k_is)
    (case cForm_at => k_is)
    (case kForm_at => k_is)
    (case aletter => k_is)
    (case lletter => k_is)
    (case cletter => k_is)
    (case kletter => k_is)
    (case anumber => k_is)
    (case lnumber => k_is)
    (case cnumber => k_is)
    (case knumber => k_is)
    (case alaw_purse => k_is)
    (case llaw_purse => k_is)
    (case claw_purse => k_is)
    (case klaw_purse => k_is)
    (case alaw_mixed => k_is)
    (case llaw_mixed => k_is)
    (case claw_mixed => k_is)
    (case klaw_mixed => k_is)
    (case alaw_draw => k_is)
    (case llaw_draw => k_is)
    (case claw_draw => k_is)
    (case klaw_draw => k_is)
    (case alaw_purses => k_is)
    (case llaw_purses => k_is)
    (case claw_purses => k_is)
    (case klaw_purses => k_is)
    (case alaw_one_of => k_is)
    (case llaw_one_of => k_is)
    (case claw_one_of => k_is)
    (case klaw_one_of => k_is)
    (case alaw_tree => k_is)
    (case llaw_tree => k_is)
    (case claw_tree => k_is)
    (case klaw_tree => k_is)
    (case alaw_worth => k_is)
    (case llaw_worth => k_is)
    (case claw_worth => k_is)
    (case klaw_worth => k_is)
    (case alaw_form => k_is)
    (case llaw_form => k_is)
    (case claw_form => k_is)
    (case klaw_form => k_is)
    (case alaw_whole_at => k_is)
    (case llaw_whole_at => k_is)
    (case claw_whole_at => k_is)
    (case klaw_whole_at => k_is)
    (case alaw_values => k_is)
    (case llaw_values => k_is)
    (case claw_values => k_is)
    (case klaw_values => k_is)
    (case alaw_names => k_is)
    (case llaw_names => k_is)
    (case claw_names => k_is)
    (case klaw_names => k_is)
    (case alaw_right => k_is)
    (case llaw_right => k_is)
    (case claw_right => k_is)
    (case klaw_right => k_is)
    (case alaw_mixed_right => k_is)
    (case llaw_mixed_right => k_is)
    (case claw_mixed_right => k_is)
    (case klaw_mixed_right => k_is)
    (case alaw => k_is)
    (case llaw => k_is)
    (case claw => k_is)
    (case klaw => k_is)
    (case pgForm => k_is)
    (case hdForm => k_is)
    (case poForm => k_is)
    (case saForm => k_is)
    (case caForm => k_is)
    (case cbForm => k_is)
    (case ccForm => k_is)
    (case cdForm => k_is)
    (case sfForm => k_is)
    (case iiForm => kit_is)
    (case zaForm___add => k_is)
    (case zbForm___add => k_is)
    (case zcForm___add => k_is)
    (case zdForm___add => k_is)
    (case zaForm___sub => k_is)
    (case zbForm___sub => k_is)
    (case zcForm___sub => k_is)
    (case zdForm___sub => k_is)
    (case zaForm___mul => k_is)
    (case zbForm___mul => k_is)
    (case zcForm___mul => k_is)
    (case zdForm___mul => k_is)
    (case noFormrows => k_is)
    (case noFormunder => k_is)
    (case iForm___init => k_is)
    (case mkForm => k_is)
    (case kcForm => k_is)
    (case iForm___add => k_is)
    (case iForm___neg => k_is)
    (case iForm___sub => k_is)
    (case iForm___mul => k_is)
    (case iForm_over => k_is)
    (case iForm_letters => k_is)
    (case iForm_above => k_is)
    (case iForm_at => k_is)
    (case nabs => k_is)
    (case nbool => k_is)
    (case ndict => k_is)
    (case nint => k_is)
    (case nisinstance => k_is)
    (case nlen => k_is)
    (case nmax => k_is)
    (case nmin => k_is)
    (case nrange => k_is)
    (case nsorted => k_is)
    (case nstr => k_is)
    (case nsum => k_is)
    (case ntuple => k_is)
    (case aKSMALL => k_is)
