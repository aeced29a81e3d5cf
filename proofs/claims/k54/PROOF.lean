import PyProof.Rows.All
import Wide.All
import OpenK.AllK
import Wide.FinOn
import HandS.Base
import HandS.Call
import HandS.List
import HandS.Comp
import HandS.Ends
import HandS.Dict
import HandS.Iter
import HandS.Words
import HandS.Wide
import HandS.WideBits
import HandS.Defaults
import HandS.IsInst
import HandS.SortInts
import HandS.Strs
import HandS.TupAny
import HandS.Steps
import HandS.Set
import HandS.SetFor
import HandS.MakeKwOnly
import PyProof.Rows.SortShellAny
import PyProof.Rows.SortStr
import PyProof.Rows.StrMeet
import HandS.OwnEq
import HandS.DeepEq
import HandS.DictComp
import PyProof.InstNe
import HandS.Style
import KE.KItemsList
import HandS.SortOrd
import HandS.SortRule
import HandS.ListItems
import KE.KEqDeep
import HandS.Zip
import HandS.Finally
import HandS.More
import KE.DataFind
import HandS.Conv
import HandS.RaiseMore
import PyProof.ReprRoads
import KE.SortKeyHeap
import HandS.Lambda
import HandS.Keys
import HandS.EndTab
import HandS.EndOwn
import KE.KNest
import KE.KNestM
import PyProof.DictUpdate
import HandS.HeadHook2
import PySem.Challenge.RW_cellplaces_k54_whole_cells_told_back
set_option Elab.async false
set_option linter.all false
set_option maxRecDepth 100000
set_option maxHeartbeats 4000000

set_option linter.all false
set_option autoImplicit false
/-! numbers written by steps and sizes: one way alone, and all of them -/
namespace CP
namespace Gr
section
variable {α : Type}
def spot (t c : α → Int) : List α → Int
  | [] => 0
  | a :: L => c a * t a + spot t c L
def topv (t z : α → Int) (L : List α) : Int := spot t (fun a => z a - 1) L
def Good (t z : α → Int) : List α → Prop
  | [] => True
  | a :: L => 1 ≤ t a ∧ 1 ≤ z a ∧ (z a = 1 ∨ topv t z L < t a) ∧ Good t z L
def Within (z c : α → Int) (L : List α) : Prop := ∀ a ∈ L, 0 ≤ c a ∧ c a < z a
variable {t z c d : α → Int}
theorem spot_nil : spot t c [] = 0 := rfl
theorem spot_cons {a : α} {L : List α} : spot t c (a :: L) = c a * t a + spot t c L := rfl
theorem top_nil : topv t z [] = 0 := rfl
theorem top_cons {a : α} {L : List α} : topv t z (a :: L) = (z a - 1) * t a + topv t z L := rfl
theorem spot_congr : ∀ {L : List α}, (∀ a ∈ L, c a = d a) → spot t c L = spot t d L
  | [], _ => rfl
  | a :: L, h => by
    rw [spot_cons, spot_cons, h a (List.mem_cons_self ..), spot_congr fun b hb => h b (List.mem_cons_of_mem _ hb)]
theorem spot_perm {L M : List α} (p : L.Perm M) : spot t c L = spot t c M := by
  induction p with
  | nil => rfl
  | cons x _ ih => rw [spot_cons, spot_cons, ih]
  | swap x y l => rw [spot_cons, spot_cons, spot_cons, spot_cons]; omega
  | trans _ _ i1 i2 => exact i1.trans i2
theorem good_pos : ∀ {L : List α}, Good t z L → ∀ a ∈ L, 1 ≤ t a ∧ 1 ≤ z a
  | [], _, a, h => nomatch h
  | b :: L, g, a, h => by
    rcases List.mem_cons.mp h with rfl | h
    · exact ⟨g.1, g.2.1⟩
    · exact good_pos g.2.2.2 a h
theorem spot_nonneg : ∀ {L : List α}, (∀ a ∈ L, 1 ≤ t a) → Within z c L → 0 ≤ spot t c L
  | [], _, _ => Int.le_refl _
  | a :: L, h, w => by
    have i := spot_nonneg (fun b hb => h b (List.mem_cons_of_mem _ hb)) fun b hb => w b (List.mem_cons_of_mem _ hb)
    have := Int.mul_nonneg (w a (List.mem_cons_self ..)).1 (by have := h a (List.mem_cons_self ..); omega : 0 ≤ t a)
    rw [spot_cons]
    omega
theorem spot_le : ∀ {L : List α}, (∀ a ∈ L, 1 ≤ t a) → Within z c L → spot t c L ≤ topv t z L
  | [], _, _ => Int.le_refl _
  | a :: L, h, w => by
    have i := spot_le (fun b hb => h b (List.mem_cons_of_mem _ hb)) fun b hb => w b (List.mem_cons_of_mem _ hb)
    have wa := w a (List.mem_cons_self ..)
    have := Int.mul_le_mul_of_nonneg_right (by omega : c a ≤ z a - 1) (by have := h a (List.mem_cons_self ..); omega : 0 ≤ t a)
    rw [spot_cons, top_cons]
    omega
theorem top_lt {m : Int} (hm : 1 ≤ m) : ∀ {L : List α}, Good t z L → (∀ b ∈ L, z b * t b ≤ m) → topv t z L < m
  | [], _, _ => by rw [top_nil]; omega
  | b :: L, g, h => by
    obtain ⟨g1, g2, g3, g4⟩ := g
    rw [top_cons]
    rcases g3 with e | lt
    · have i := top_lt hm g4 fun x hx => h x (List.mem_cons_of_mem _ hx)
      rw [e]
      omega
    · have := h b (List.mem_cons_self ..)
      rw [Int.sub_mul, Int.one_mul]
      omega
theorem good_pair : ∀ {L : List α}, (∀ a ∈ L, 1 ≤ t a ∧ 1 ≤ z a) → L.Pairwise (fun a b => z b * t b ≤ t a) → Good t z L
  | [], _, _ => trivial
  | a :: L, h, p => by
    obtain ⟨p1, p2⟩ := List.pairwise_cons.mp p
    have g := good_pair (fun x hx => h x (List.mem_cons_of_mem _ hx)) p2
    have ha := h a (List.mem_cons_self ..)
    exact ⟨ha.1, ha.2, .inr (top_lt ha.1 g p1), g⟩
/-- by falling steps, any two of which are comparable -/
theorem good_sorted : ∀ {L : List α}, (∀ a ∈ L, 1 ≤ t a ∧ 1 ≤ z a) → L.Pairwise (fun a b => t b ≤ t a) → L.Pairwise (fun a b => z b * t b ≤ t a ∨ z a * t a ≤ t b) → Good t z L
  | [], _, _, _ => trivial
  | a :: L, h, p, q => by
    obtain ⟨p1, p2⟩ := List.pairwise_cons.mp p
    obtain ⟨q1, q2⟩ := List.pairwise_cons.mp q
    have g := good_sorted (fun x hx => h x (List.mem_cons_of_mem _ hx)) p2 q2
    have ha := h a (List.mem_cons_self ..)
    refine ⟨ha.1, ha.2, ?_, g⟩
    by_cases e : z a = 1
    · exact .inl e
    · refine .inr (top_lt ha.1 g fun b hb => ?_)
      rcases q1 b hb with k | k
      · exact k
      · have := p1 b hb
        have l := Int.mul_le_mul_of_nonneg_right (by omega : 2 ≤ z a) (by omega : 0 ≤ t a)
        omega
theorem inj : ∀ {L : List α}, Good t z L → Within z c L → Within z d L → spot t c L = spot t d L → ∀ a ∈ L, c a = d a
  | [], _, _, _, _, a, h => nomatch h
  | b :: L, g, w, v, e, a, ha => by
    obtain ⟨g1, g2, g3, g4⟩ := g
    have w' : Within z c L := fun x hx => w x (List.mem_cons_of_mem _ hx)
    have v' : Within z d L := fun x hx => v x (List.mem_cons_of_mem _ hx)
    have wb := w b (List.mem_cons_self ..)
    have vb := v b (List.mem_cons_self ..)
    have p : ∀ x ∈ L, 1 ≤ t x := fun x hx => (good_pos g4 x hx).1
    have k : c b = d b := by
      rcases g3 with z1 | lt
      · omega
      · have a1 := spot_nonneg p w'
        have a2 := spot_nonneg p v'
        have b1 := spot_le p w'
        have b2 := spot_le p v'
        rw [spot_cons, spot_cons] at e
        rcases Int.lt_trichotomy (c b) (d b) with l | l | l
        · have := Int.mul_le_mul_of_nonneg_right (by omega : c b + 1 ≤ d b) (by omega : 0 ≤ t b)
          rw [Int.add_mul, Int.one_mul] at this
          omega
        · exact l
        · have := Int.mul_le_mul_of_nonneg_right (by omega : d b + 1 ≤ c b) (by omega : 0 ≤ t b)
          rw [Int.add_mul, Int.one_mul] at this
          omega
    rcases List.mem_cons.mp ha with rfl | ha
    · exact k
    · refine inj g4 w' v' ?_ a ha
      rw [spot_cons, spot_cons, k] at e
      omega
/-- what is told from the greatest step down: the indices in this order, the rest -/
def tell (t z : α → Int) : List α → Int → List Int × Int
  | [], n => ([], n)
  | a :: L, n => let q := tell t z L (n - min (n / t a) (z a - 1) * t a); (min (n / t a) (z a - 1) :: q.1, q.2)
theorem tell_spot : ∀ {L : List α} {c : α → Int}, Good t z L → Within z c L → tell t z L (spot t c L) = (L.map c, 0)
  | [], _, _, _ => rfl
  | a :: L, c, g, w => by
    obtain ⟨g1, g2, g3, g4⟩ := g
    have w' : Within z c L := fun x hx => w x (List.mem_cons_of_mem _ hx)
    have wb := w a (List.mem_cons_self ..)
    have p : ∀ x ∈ L, 1 ≤ t x := fun x hx => (good_pos g4 x hx).1
    have a1 := spot_nonneg p w'
    have b1 := spot_le p w'
    have k : min (spot t c (a :: L) / t a) (z a - 1) = c a := by
      rw [spot_cons, Int.mul_comm, Int.mul_add_ediv_left _ _ (by omega)]
      rcases g3 with z1 | lt
      · have : 0 ≤ spot t c L / t a := Int.ediv_nonneg a1 (by omega)
        omega
      · rw [Int.ediv_eq_zero_of_lt a1 (by omega)]
        omega
    unfold tell
    dsimp only
    rw [k]
    have e : spot t c (a :: L) - c a * t a = spot t c L := by rw [spot_cons]; omega
    rw [e, tell_spot g4 w']
    rfl
/-- what is told lies within the sizes, and makes up the place but for the rest -/
theorem tell_ok : ∀ {L : List α} {n : Int}, (∀ a ∈ L, 1 ≤ t a ∧ 1 ≤ z a) → 0 ≤ n → (tell t z L n).1.length = L.length ∧ (∀ (i : Nat) (a : α) (x : Int), L[i]? = some a → (tell t z L n).1[i]? = some x → 0 ≤ x ∧ x < z a) ∧ 0 ≤ (tell t z L n).2 ∧ ∀ c : α → Int, L.map c = (tell t z L n).1 → n = spot t c L + (tell t z L n).2
  | [], n, _, h => ⟨rfl, fun i a x h => by simp at h, h, fun c _ => by simp [spot, tell]⟩
  | a :: L, n, h, h0 => by
    have ha := h a (List.mem_cons_self ..)
    have q0 : 0 ≤ n / t a := Int.ediv_nonneg h0 (by omega)
    have q1 : n / t a * t a ≤ n := Int.ediv_mul_le _ (by omega)
    have q2 : min (n / t a) (z a - 1) ≤ n / t a := Int.min_le_left _ _
    have q3 := Int.mul_le_mul_of_nonneg_right q2 (by omega : 0 ≤ t a)
    obtain ⟨i1, i2, i3, i4⟩ := tell_ok (L := L) (n := n - min (n / t a) (z a - 1) * t a) (fun b hb => h b (List.mem_cons_of_mem _ hb)) (by omega)
    refine ⟨by unfold tell; simp only [List.length_cons, i1], fun i b x hb hx => ?_, by unfold tell; exact i3, fun c e => ?_⟩
    · unfold tell at hx
      cases i with
      | zero =>
        simp only [List.getElem?_cons_zero, Option.some.injEq] at hb hx
        subst hb
        subst hx
        omega
      | succ i =>
        simp only [List.getElem?_cons_succ] at hb hx
        exact i2 i b x hb hx
    · unfold tell at e ⊢
      dsimp only at e ⊢
      rw [List.map_cons] at e
      obtain ⟨e1, e2⟩ := List.cons.inj e
      have := i4 c e2
      rw [spot_cons, e1]
      omega
end
/-! rising lists -/
theorem rise_lt : ∀ {xs : List Int} {x M : Int}, (x :: xs).Pairwise (· < ·) → (∀ y ∈ x :: xs, y < M) → x + xs.length < M
  | [], x, M, _, h => by have := h x (List.mem_cons_self ..); simpa using this
  | y :: xs, x, M, p, h => by
    obtain ⟨p1, p2⟩ := List.pairwise_cons.mp p
    have := rise_lt p2 fun z hz => h z (List.mem_cons_of_mem _ hz)
    have := p1 y (List.mem_cons_self ..)
    rw [List.length_cons]
    omega
theorem rise_all : ∀ {xs : List Int} {lo : Int}, xs.Pairwise (· < ·) → (∀ y ∈ xs, lo ≤ y ∧ y < lo + xs.length) → xs = (List.range xs.length).map fun i => lo + (i : Nat)
  | [], _, _, _ => rfl
  | x :: xs, lo, p, h => by
    have hx := h x (List.mem_cons_self ..)
    have e := rise_lt p fun y hy => (h y hy).2
    rw [List.length_cons] at e
    have x0 : x = lo := by omega
    subst x0
    obtain ⟨p1, p2⟩ := List.pairwise_cons.mp p
    have i := rise_all (lo := x + 1) p2 fun y hy => by
      have a := p1 y hy
      have b := (h y (List.mem_cons_of_mem _ hy)).2
      rw [List.length_cons] at b
      omega
    rw [List.length_cons, List.range_succ_eq_map, List.map_cons, List.map_map]
    congr 1
    · omega
    · rw [i]
      simp only [List.length_map, List.length_range]
      refine List.map_congr_left fun k _ => ?_
      show x + 1 + (k : Int) = x + ((k + 1 : Nat) : Int)
      omega
theorem perm_rise {xs ys : List Int} {N : Nat} (p : ys.Perm xs) (s : ys.Pairwise (· ≤ ·)) (nd : xs.Nodup) (hl : xs.length = N) (h : ∀ x ∈ xs, 0 ≤ x ∧ x < N) : ys = (List.range N).map fun i => ((i : Nat) : Int) := by
  have nd' : ys.Nodup := p.nodup_iff.mpr nd
  have lt : ys.Pairwise (· < ·) := by
    refine (List.Pairwise.and s nd').imp fun {a b} k => ?_
    have := k.1
    have := k.2
    omega
  have l : ys.length = N := by rw [p.length_eq, hl]
  have r := rise_all (lo := 0) lt fun y hy => by
    have := h y (p.mem_iff.mp hy)
    omega
  rw [r, l]
  refine List.map_congr_left fun k _ => ?_
  omega
/-! all cells -/
def cellsM : List Nat → List (List Int)
  | zs => zs.foldl (fun acc z => acc.flatMap fun c => (List.range z).map fun i => c ++ [((i : Nat) : Int)]) [[]]
theorem cells_app (zs : List Nat) (z : Nat) : cellsM (zs ++ [z]) = (cellsM zs).flatMap fun c => (List.range z).map fun i => c ++ [((i : Nat) : Int)] := by
  unfold cellsM
  rw [List.foldl_append]
  rfl
def prodN (zs : List Nat) : Nat := zs.foldl (· * ·) 1
theorem prodN_app (zs : List Nat) (z : Nat) : prodN (zs ++ [z]) = prodN zs * z := by
  unfold prodN
  rw [List.foldl_append]
  rfl
theorem flat_len {α β : Type} (f : α → List β) (n : Nat) (h : ∀ a, (f a).length = n) : ∀ l : List α, (l.flatMap f).length = l.length * n
  | [] => by simp
  | a :: l => by rw [List.flatMap_cons, List.length_append, h, flat_len f n h l, List.length_cons, Nat.add_mul]; omega
theorem cells_len : ∀ {zs : List Nat} (r : List Nat), r.reverse = zs → (cellsM zs).length = prodN zs
  | _, [], rfl => rfl
  | _, z :: r, rfl => by
    rw [List.reverse_cons, cells_app, prodN_app, flat_len _ z (by intro a; simp), cells_len r rfl]
theorem cells_within : ∀ {zs : List Nat} (r : List Nat), r.reverse = zs → ∀ c ∈ cellsM zs, c.length = zs.length ∧ ∀ (i : Nat) (x : Int) (z : Nat), c[i]? = some x → zs[i]? = some z → 0 ≤ x ∧ x < (z : Nat)
  | _, [], rfl, c, hc => by
    simp [cellsM] at hc
    subst hc
    exact ⟨rfl, fun i x z h => by simp at h⟩
  | _, z :: r, rfl, c, hc => by
    rw [List.reverse_cons, cells_app] at hc
    obtain ⟨b, hb, hc⟩ := List.mem_flatMap.mp hc
    obtain ⟨k, hk, rfl⟩ := List.mem_map.mp hc
    obtain ⟨i1, i2⟩ := cells_within r rfl b hb
    have hk := List.mem_range.mp hk
    refine ⟨by rw [List.length_append, List.reverse_cons, List.length_append, i1]; rfl, fun i x w hx hw => ?_⟩
    rw [List.reverse_cons] at hw
    by_cases lt : i < b.length
    · rw [List.getElem?_append_left lt] at hx
      rw [List.getElem?_append_left (by omega)] at hw
      exact i2 i x w hx hw
    · rw [List.getElem?_append_right (by omega)] at hx
      rw [List.getElem?_append_right (by omega)] at hw
      have e : i - b.length = 0 := by
        have := (List.getElem?_eq_some_iff.mp hx).1
        simp at this
        omega
      rw [e] at hx
      rw [← i1, e] at hw
      simp only [List.getElem?_cons_zero, Option.some.injEq] at hx hw
      subst hx
      subst hw
      omega
theorem cells_nodup : ∀ {zs : List Nat} (r : List Nat), r.reverse = zs → (cellsM zs).Nodup
  | _, [], rfl => by decide
  | _, z :: r, rfl => by
    rw [List.reverse_cons, cells_app]
    have ih := cells_nodup r rfl
    generalize cellsM r.reverse = l at ih ⊢
    induction l with
    | nil => simp
    | cons c l il =>
      obtain ⟨p1, p2⟩ := List.pairwise_cons.mp ih
      rw [List.flatMap_cons]
      refine List.nodup_append.mpr ⟨?_, il p2, fun a ha b hb e => ?_⟩
      · refine List.Pairwise.map _ ?_ (List.nodup_range (n := z))
        intro i j ne e
        have := (List.append_inj' e rfl).2
        injection this with k
        exact ne (by omega)
      · subst e
        obtain ⟨i, _, rfl⟩ := List.mem_map.mp ha
        obtain ⟨c2, h2, hb⟩ := List.mem_flatMap.mp hb
        obtain ⟨j, _, e⟩ := List.mem_map.mp hb
        exact p1 c2 h2 (List.append_inj' e rfl).1.symm
end Gr
end CP

set_option Elab.async false
set_option linter.all false
set_option maxRecDepth 100000
set_option maxHeartbeats 4000000
/-! CP: own short words over the hand layer: operators by name, readings one step at a time -/
namespace CP
open PySem L2

/-! ### operators by name -/
abbrev oAdd : R2 := rI0 fun i j => .int (i + j)
abbrev oSub : R2 := rI0 fun i j => .int (i - j)
abbrev oMul : R2 := rI CMulW fun i j => .int (i * j)
abbrev oDiv : R2 := rI CDivW fun i j => .int (i / j)
abbrev oMod : R2 := rI (fun _ j => 0 < j) fun i j => .int (i % j)
abbrev oLt : R2 := rI0 fun i j => .bl (decide (i < j))
abbrev oLe : R2 := rI0 fun i j => .bl (decide (i ≤ j))
abbrev oGt : R2 := rI0 fun i j => .bl (decide (j < i))
abbrev oGe : R2 := rI0 fun i j => .bl (decide (j ≤ i))
abbrev oNeg : V → Hp → VK → Prop := rU fun i => .int (-i)
/-- a power of a base below 2 ^ 1000, the exponent at most 1000 -/
def CPw (i j : Int) : Prop := 0 ≤ j ∧ j ≤ 1000 ∧ i.natAbs < 2 ^ 1000
abbrev oPow : R2 := rI CPw fun i j => .int (i ^ j.toNat)
def oList (K : PySem.W.Frag) : List V → Hp → VK → Prop := fun xs H Q => ∃ p ys, xs = [.ref p] ∧ (SqL K H p ys ∨ SqT K H p ys) ∧ ∀ l, H l = none → Q (.ref l) (upd H l (.lst ys))
def oMax2 : List V → Hp → VK → Prop := fun xs H Q => ∃ i j, xs = [.int i, .int j] ∧ Q (.int (if j > i then j else i)) H
def oMin2 : List V → Hp → VK → Prop := fun xs H Q => ∃ i j, xs = [.int i, .int j] ∧ Q (.int (if j < i then j else i)) H
def oAbs : List V → Hp → VK → Prop := fun xs H Q => ∃ i, xs = [.int i] ∧ Q (.int (if i < 0 then -i else i)) H
def rLenA (K : PySem.W.Frag) : List V → Hp → VK → Prop := fun xs H Q => ∃ p ys, xs = [.ref p] ∧ (SqL K H p ys ∨ SqT K H p ys) ∧ Q (.int ys.length) H
section
variable {X : Cx}
theorem call_lenA : CallR X (.builtin "len") (rLenA X.K) := call_len_seq
theorem call_maxA (h : X.calm = true) : CallR X (.builtin "max") oMax2 := call_max2 h
theorem call_minA (h : X.calm = true) : CallR X (.builtin "min") oMin2 := call_min2 h
theorem call_absA : CallR X (.builtin "abs") oAbs := call_abs
theorem call_listA : CallR X (.type "list") (oList X.K) := call_list_of
theorem op_powW : OpR X (binaryOp .Pow) oPow := opI fun i j _ _ _ _ _ hc q => by
  obtain ⟨h0, h1, h2⟩ := hc
  refine PyProof.Rows.pow_int h0 ?_ q
  have b := PyProof.Rows.intBits_le h2
  have h3 : (Builtin.Int.intBits i : Int) * j ≤ 1000 * j := Int.mul_le_mul_of_nonneg_right (by omega) h0
  omega
end

/-! ### kinds of values, isinstance -/
def kinds : List String := ["NoneType", "bool", "int", "str", "list", "tuple", "dict"]
theorem kit_all : (kinds.all fun n => (["int", "bool", "str", "list", "tuple", "dict"]).all fun c => decide (kitB n c = some (n == c || (n == "bool" && c == "int")))) = true := by decide +kernel
theorem kit_in {K : PySem.W.Frag} {n c : String} (h : n ∈ kinds) (hc : c ∈ ["int", "bool", "str", "list", "tuple", "dict"]) : PySem.W.kitOne K (.type n) (.type c) = some (n == c || (n == "bool" && c == "int")) :=
  kit_ty (of_decide_eq_true (List.all_eq_true.mp (List.all_eq_true.mp kit_all n h) c hc))
/-- a value of one of these kinds -/
def TK (K : PySem.W.Frag) (H : Hp) (x : V) (n : String) : Prop := n ∈ kinds ∧ TyX K H x (.type n)
section
variable {K : PySem.W.Frag} {H : Hp} {Q : VK} {x : V} {n c : String}
theorem r_isi (h : TK K H x n) (hc : c ∈ ["int", "bool", "str", "list", "tuple", "dict"]) (q : Q (.bl (n == c || (n == "bool" && c == "int"))) H) : rIsi K [x, .ty c] H Q :=
  ⟨x, .ty c, .type n, .type c, _, rfl, .ty c, h.2, kit_in h.1 hc, q⟩
theorem tk_int {i : Int} : TK K H (.int i) "int" := ⟨by decide, .base (.int i)⟩
theorem tk_bl {b : Bool} : TK K H (.bl b) "bool" := ⟨by decide, .base (.bl b)⟩
theorem tk_non : TK K H .non "NoneType" := ⟨by decide, .base .non⟩
theorem tk_str {z : Str} : TK K H (.str z) "str" := ⟨by decide, .base (.str z)⟩
theorem tk_lst {a : Addr} {xs : List V} (h : H a = some (.lst xs)) : TK K H (.ref a) "list" := ⟨by decide, .base (.lst h)⟩
theorem tk_tup {a : Addr} {xs : List V} (h : H a = some (.tup xs)) : TK K H (.ref a) "tuple" := ⟨by decide, .base (.tup h)⟩
theorem tk_dK {a : Addr} {kvs : List (Key × V)} (h : H a = some (.dK kvs)) : TK K H (.ref a) "dict" := ⟨by decide, .base (.dK h)⟩
theorem tk_dT {a : Addr} {kvs : List (List Key × V)} (h : H a = some (.dT kvs)) : TK K H (.ref a) "dict" := ⟨by decide, .base (.dT h)⟩
end
/-! ### sizes of products, divisors -/
theorem mul_ok {i j : Int} (h : -(2 ^ 400) < i ∧ i < 2 ^ 400 ∧ -(2 ^ 400) < j ∧ j < 2 ^ 400) : CMulW i j :=
  wide_mul (a := 400) (b := 400) (by omega) (by omega) (by decide) (by decide) (by decide)
theorem mul_okN {a b : Nat} (h : a < 2 ^ 400 ∧ b < 2 ^ 400) : CMulW (a : Int) (b : Int) := mul_ok (by omega)
theorem div_ok {i j : Int} (h : 0 < j ∧ j < 2 ^ 400) : CDivW i j := wide_div (b := 400) h.1 (by omega) (by decide) (by decide)

/-! ### heaps: one that grows, one that changes at one place -/
/-- all but l stands -/
def SB (l : Addr) (H H' : Hp) : Prop := ∀ b o, b ≠ l → H b = some o → H' b = some o
section
variable {H H1 H' : Hp} {a l : Addr} {o u : HO}
theorem same_new (h : H a = none) : Same H (upd H a o) := fun b u e => by
  rw [upd_ne (ne_of_none e h)]
  exact e
theorem sb_upd : SB l H (upd H l o) := fun b u hb e => by
  rw [upd_ne hb]
  exact e
theorem Same.to (s : Same H H') (h : H a = some o) : H' a = some o := s a o h
theorem SB.to (s : SB l H H') (n : a ≠ l) (h : H a = some o) : H' a = some o := s a o n h
theorem Same.sb (s : Same H H1) (n : H l = none) (b : SB l H1 H') : Same H H' := fun c u e => b c u (ne_of_none e n) (s c u e)
theorem SB.same (s : SB l H H1) (b : Same H1 H') : SB l H H' := fun c u hc e => b c u (s c u hc e)
theorem SB.trans (s : SB l H H1) (b : SB l H1 H') : SB l H H' := fun c u hc e => b c u hc (s c u hc e)
theorem SB.new (s : SB l H H1) (n : H a = none) (b : SB a H1 H') : SB l H H' := fun c u hc e => b c u (ne_of_none e n) (s c u hc e)
theorem Same.toSB (s : Same H H') : SB l H H' := fun c u _ e => s c u e
theorem SB.free (e : SB a H H') (h : H' l = none) (n : l ≠ a) : H l = none := by
  cases q : H l with
  | none => rfl
  | some o =>
    rw [e l o n q] at h
    cases h
end

/-- many new objects told at once -/
theorem inv_grow {X : Cx} {pins : List (Addr × Obj)} {σ : St} {H H' : Hp} {s : Shared} {h' : Heap} {tk : Nat} (I : Inv X pins σ H s) (hk : ∀ b o, s.heap.get? b = some o → h'.get? b = some o) (ext : Same H H')
    (new : ∀ b o, H' b = some o → H b = some o ∨ (s.heap.objs.size ≤ b ∧ ObjOk X.prog X.w H' h' b o)) : Inv X pins σ H' { s with heap := h', toks := tk } := by
  have old : ∀ b o, s.heap.get? b = some o → H b = none → H' b = none := fun b o e n => by
    cases q : H' b with
    | none => rfl
    | some u =>
      rcases new b u q with z | ⟨z, _⟩
      · rw [n] at z; cases z
      · exact absurd (Heap.lt_size e) (Nat.not_lt.mpr z)
  refine I.un ⟨fun b o e _ _ _ => hk b o e, fun b o e _ _ _ => ⟨o.slots, hk b o e⟩, fun b o e n _ => old b o e n, fun b o e _ => ⟨o, hk b o e⟩, fun b xs e => ext b _ e, fun b o u e => ext b _ e, fun b ps e => ⟨#[], by rw [ext b _ e]; simp⟩⟩ fun b u e => ?_
  rcases new b u e with z | ⟨_, z⟩
  · exact (I.hok b u z).stay (fun c v _ q => hk c v q) (fun c q => ext c _ q) fun c xs q => ext c _ q
  · exact z

/-! ### readings one step at a time -/
section
variable {K : PySem.W.Frag} {σ : St} {H : Hp} {Q : VK} {D : Ends} {i j : Nat} {v x y : V} {ta tb te : TE} {tt tu : TT} {t1 t2 : TS} {tas tr : TA}
theorem r_var (h : σ[i]? = some (some v)) (q : Q v H) : tVar i σ H Q := ⟨v, h, q⟩
theorem r_c (q : Q v H) : tC v σ H Q := q
theorem r_op {r : R2} (q : ta σ H fun x H1 => tb σ H1 fun y H2 => r x y H2 Q) : tOp r ta tb σ H Q := q
theorem r_un {r : V → Hp → VK → Prop} (q : ta σ H fun x H1 => r x H1 Q) : tUn r ta σ H Q := q
theorem r_I0 {g : Int → Int → V} {i j : Int} (q : Q (g i j) H) : rI0 g (.int i) (.int j) H Q := ⟨i, j, rfl, rfl, q⟩
theorem r_I {C : Int → Int → Prop} {g : Int → Int → V} {i j : Int} (c : C i j) (q : Q (g i j) H) : rI C g (.int i) (.int j) H Q := ⟨i, j, rfl, rfl, c, q⟩
theorem r_U {g : Int → V} {i : Int} (q : Q (g i) H) : rU g (.int i) H Q := ⟨i, rfl, q⟩
theorem r_eq (h : scal x y = true) (q : Q (.bl (decide (x = y))) H) : rEq x y H Q := ⟨h, q⟩
theorem r_ne (h : scal x y = true) (q : Q (.bl (!decide (x = y))) H) : rNe x y H Q := ⟨h, q⟩
theorem r_eqI {i j : Int} (q : Q (.bl (decide (i = j))) H) : rEq (.int i) (.int j) H Q := ⟨rfl, by
  have e : decide (V.int i = V.int j) = decide (i = j) := by
    by_cases h : i = j
    · subst h; simp
    · have h' : ¬ V.int i = V.int j := fun z => h (V.int.inj z)
      simp [h]
  rw [e]; exact q⟩
theorem r_neI {i j : Int} (q : Q (.bl (!decide (i = j))) H) : rNe (.int i) (.int j) H Q := ⟨rfl, by
  have e : decide (V.int i = V.int j) = decide (i = j) := by
    by_cases h : i = j
    · subst h; simp
    · have h' : ¬ V.int i = V.int j := fun z => h (V.int.inj z)
      simp [h]
  rw [e]; exact q⟩
theorem r_isN (q : Q (.bl (decide (x = .non))) H) : rIsN x .non H Q := ⟨rfl, q⟩
theorem r_notN (q : Q (.bl (!decide (x = .non))) H) : rNotN x .non H Q := ⟨rfl, q⟩
theorem r_test {Q : Bool → Hp → Prop} (q : te σ H fun x H1 => ∃ k, x = .bl k ∧ Q k H1) : tTest te σ H Q := q
theorem r_tB {Q : Bool → Hp → Prop} (q : te σ H fun x H1 => ∃ k, x = .bl k ∧ Q k H1) : tB te σ H Q := q
theorem r_tru {Q : Bool → Hp → Prop} (q : te σ H fun x H1 => ∃ k, TruV K x H1 k ∧ Q k H1) : tTru K te σ H Q := q
theorem r_bl {b : Bool} {P : Bool → Prop} (q : P b) : ∃ k, V.bl b = .bl k ∧ P k := ⟨b, rfl, q⟩
theorem r_and {Q : Bool → Hp → Prop} (q : tt σ H fun c H1 => if c = true then tu σ H1 Q else Q false H1) : tAnd tt tu σ H Q := q
theorem r_or {Q : Bool → Hp → Prop} (q : tt σ H fun c H1 => if c = true then Q true H1 else tu σ H1 Q) : tOr tt tu σ H Q := q
theorem r_not {Q : Bool → Hp → Prop} (q : tt σ H fun c H1 => Q (!c) H1) : tNot tt σ H Q := q
theorem r_andV (q : ta σ H fun x H1 => ∃ c, x = .bl c ∧ if c = true then tb σ H1 Q else Q (.bl false) H1) : tAndV ta tb σ H Q := q
theorem r_orV (q : ta σ H fun x H1 => ∃ c, x = .bl c ∧ if c = true then Q (.bl true) H1 else tb σ H1 Q) : tOrV ta tb σ H Q := q
theorem r_notV (q : ta σ H fun x H1 => ∃ c, x = .bl c ∧ Q (.bl (!c)) H1) : tNotV ta σ H Q := q
theorem r_ifE (q : tt σ H fun c H1 => if c = true then ta σ H1 Q else tb σ H1 Q) : tIf tt ta tb σ H Q := q
theorem r_nil {Q : List V → Hp → Prop} (q : Q [] H) : tNil σ H Q := q
theorem r_cons {Q : List V → Hp → Prop} (q : ta σ H fun x H1 => tr σ H1 fun xs H2 => Q (x :: xs) H2) : tCons ta tr σ H Q := q
theorem r_cb {r : List V → Hp → VK → Prop} (q : tas σ H fun vs H1 => r vs H1 Q) : tCB r tas σ H Q := q
theorem r_call {sp : Sp} {E : XK} (q : tas σ H fun vs H1 => sp (vs ++ []) H1 Q E) : tCall sp [] E tas σ H Q := q
theorem r_callD {sp : Sp} {dvs : List V} {E : XK} (q : tas σ H fun vs H1 => sp (vs ++ dvs) H1 Q E) : tCall sp dvs E tas σ H Q := q
/-- a new object -/
def NewO (o : HO) (H : Hp) (Q : VK) : Prop := ∀ p, H p = none → Q (.ref p) (upd H p o)
theorem r_newO {o : HO} (q : ∀ p H', H p = none → Same H H' → H' p = some o → Q (.ref p) H') : NewO o H Q := fun p h => q p _ h (same_new h) upd_same
theorem r_lst (q : tas σ H fun xs H1 => xs.length ≤ sizeLine ∧ NewO (.lst xs) H1 Q) : tLst tas σ H Q := q
theorem r_tup (q : tas σ H fun xs H1 => xs.length ≤ sizeLine ∧ NewO (.tup xs) H1 Q) : tTup tas σ H Q := q
theorem r_dnewK (q : NewO (.dK []) H Q) : tDNewK σ H Q := q
theorem r_mk {n : Nat} {o : HO} (hz : n ≤ sizeLine) (q : ∀ p H', H p = none → Same H H' → H' p = some o → Q (.ref p) H') : n ≤ sizeLine ∧ NewO o H Q := ⟨hz, r_newO q⟩
/-- an object changed -/
def PutO (l : Addr) (o : HO) (H : Hp) (P : Hp → Prop) : Prop := P (upd H l o)
theorem r_putO {P : Hp → Prop} {l : Addr} {o : HO} (q : ∀ H', SB l H H' → H' l = some o → P H') : PutO l o H P := q _ sb_upd upd_same
/-! built-ins by what they say -/
theorem r_len {p : Addr} {ys : List V} (h : SqL K H p ys) (q : Q (.int ys.length) H) : rLenA K [.ref p] H Q := ⟨p, ys, rfl, .inl h, q⟩
theorem r_lenT {p : Addr} {ys : List V} (h : SqT K H p ys) (q : Q (.int ys.length) H) : rLenA K [.ref p] H Q := ⟨p, ys, rfl, .inr h, q⟩
theorem r_list {p : Addr} {ys : List V} (h : SqL K H p ys) (q : ∀ l H', H l = none → Same H H' → H' l = some (.lst ys) → Q (.ref l) H') : oList K [.ref p] H Q := ⟨p, ys, rfl, .inl h, fun l hl => q l _ hl (same_new hl) upd_same⟩
theorem r_max2 {i j : Int} (q : Q (.int (if j > i then j else i)) H) : oMax2 [.int i, .int j] H Q := ⟨i, j, rfl, q⟩
theorem r_min2 {i j : Int} (q : Q (.int (if j < i then j else i)) H) : oMin2 [.int i, .int j] H Q := ⟨i, j, rfl, q⟩
theorem r_abs {i : Int} (q : Q (.int (if i < 0 then -i else i)) H) : oAbs [.int i] H Q := ⟨i, rfl, q⟩
theorem r_sum {p : Addr} {ns : List Int} (h : SqL K H p (ns.map V.int)) (q : Q (.int ns.sum) H) : rSum K [.ref p] H Q := ⟨p, ns, rfl, h, q⟩
theorem r_cat {p b : Addr} {xs ys : List V} (h : H p = some (.lst xs)) (h2 : H b = some (.lst ys)) (hz : xs.length + ys.length ≤ sizeLine) (q : ∀ l H', H l = none → Same H H' → H' l = some (.lst (xs ++ ys)) → Q (.ref l) H') : rCat (.ref p) (.ref b) H Q :=
  ⟨p, b, xs, ys, rfl, rfl, h, h2, hz, fun l hl => q l _ hl (same_new hl) upd_same⟩
theorem r_app {p : Addr} {xs : List V} {y : V} (h : H p = some (.lst xs)) (hz : xs.length < sizeLine) (q : ∀ H', SB p H H' → H' p = some (.lst (xs ++ [y])) → Q .non H') : rAppend (.ref p) [y] H Q :=
  ⟨p, xs, y, rfl, rfl, h, hz, q _ sb_upd upd_same⟩
theorem r_slL {p : Addr} {xs : List V} {lo hi : Option Int} (h : SqL K H p xs) (q : ∀ l H', H l = none → Same H H' → H' l = some (.lst (cutV xs lo hi)) → Q (.ref l) H') : rSlL K (.ref p) lo hi H Q :=
  ⟨p, xs, rfl, h, fun l hl => q l _ hl (same_new hl) upd_same⟩
theorem r_ixL {p : Addr} {xs : List V} {i : Int} {v : V} (h : SqL K H p xs) (ha : atI xs i = some v) (q : Q v H) : rIxL K (.ref p) (.int i) H Q := ⟨p, xs, i, v, rfl, rfl, h, ha, q⟩
theorem r_ixT {p : Addr} {xs : List V} {i : Int} {v : V} (h : SqT K H p xs) (ha : atI xs i = some v) (q : Q v H) : rIxT K (.ref p) (.int i) H Q := ⟨p, xs, i, v, rfl, rfl, h, ha, q⟩
theorem r_setL {P : Hp → Prop} {p : Addr} {xs : List V} {i : Int} {j : Nat} {v : V} (h : H p = some (.lst xs)) (hj : ixN xs.length i = some j) (q : ∀ H', SB p H H' → H' p = some (.lst (xs.set j v)) → P H') : rSetL (.ref p) (.int i) v H P :=
  ⟨p, xs, i, j, rfl, rfl, h, hj, q _ sb_upd upd_same⟩
theorem r_gsub {to ti : TE} {t : TSet} {q' : St → Hp → Prop} (q : to σ H fun o H1 => ti σ H1 fun i H2 => t o i v H2 fun H3 => q' σ H3) : gSub to ti t v σ H q' := q
theorem r_in {p : Addr} {xs : List V} {neg : Bool} (h : SqL K H p xs) (hx : flatV x = true) (ha : xs.all flatV = true) (q : Q (.bl (if neg then !inV x xs else inV x xs)) H) : rIn K neg x (.ref p) H Q := ⟨p, xs, rfl, .inl h, hx, ha, q⟩
theorem r_inT {p : Addr} {xs : List V} {neg : Bool} (h : SqT K H p xs) (hx : flatV x = true) (ha : xs.all flatV = true) (q : Q (.bl (if neg then !inV x xs else inV x xs)) H) : rIn K neg x (.ref p) H Q := ⟨p, xs, rfl, .inr h, hx, ha, q⟩
theorem r_bits {te : TE} (q : te σ H fun x H1 => ∃ i, x = .int i ∧ Q (.int (Builtin.Int.intBits i : Nat)) H1) : tBits te σ H Q := q
theorem r_iTup {R : It → Hp → Prop} {tl : TE} (q : tl σ H fun x H1 => ∃ a, x = .ref a ∧ (∃ xs, SqT K H1 a xs) ∧ R (Itt K a) H1) : iTup K tl σ H R := q
theorem r_iList {R : It → Hp → Prop} {tl : TE} (q : tl σ H fun x H1 => ∃ a, x = .ref a ∧ (∃ xs, SqL K H1 a xs) ∧ R (Itl K a) H1) : iList K tl σ H R := q
theorem r_iRng1 {R : It → Hp → Prop} (q : tas σ H fun vs H1 => ∃ j : Int, vs = [.int j] ∧ -(2 ^ 62) ≤ j ∧ j < 2 ^ 62 ∧ R (Itr 0 j.toNat) H1) : iRng1 tas σ H R := q
theorem r_dget2 {td ty tx : TE} (q : td σ H fun x H1 => ∃ a, x = .ref a ∧ IsD H1 a ∧ ty σ H1 fun y H2 => tx σ H2 fun z H3 => ∃ o, DGet H3 a y o ∧ Q (o.getD z) H3) : tDGet2 td ty tx σ H Q := q
theorem r_sdput {td ty tv : TE} (q : tv σ H fun v H1 => td σ H1 fun x H2 => ty σ H2 fun y H3 => ∃ a H4, x = .ref a ∧ DPut H3 a y v H4 ∧ D.nx σ H4) : sDPut td ty tv D σ H := q
theorem r_disp1 {i j : Int} (q : ∀ D H', H D = none → Same H H' → H' D = some (.dK [(Sum.inl i, .int j)]) → Q (.ref D) H') : tDisp [(tC (.int i), tC (.int j))] σ H Q := fun D hD => by
  refine ⟨upd_same, [(Sum.inl i, .int j)], rfl, Nat.succ_le_succ (Nat.zero_le _), ?_⟩
  refine q D _ hD (fun b o hb => ?_) upd_same
  have hne : b ≠ D := fun e => by rw [e, hD] at hb; cases hb
  rw [upd_ne hne, upd_ne hne]
  exact hb
theorem r_iRng2 {R : It → Hp → Prop} (q : tas σ H fun vs H1 => ∃ i j : Int, vs = [.int i, .int j] ∧ (-(2 ^ 62) ≤ i ∧ i < 2 ^ 62 ∧ -(2 ^ 62) ≤ j ∧ j < 2 ^ 62) ∧ R (Itr i (j - i).toNat) H1) : iRng2 tas σ H R := q
theorem r_rng2 {P : Int → Int → Prop} {i j : Int} (h : -(2 ^ 62) ≤ i ∧ i < 2 ^ 62 ∧ -(2 ^ 62) ≤ j ∧ j < 2 ^ 62) (q : P i j) : ∃ i' j' : Int, [V.int i, V.int j] = [.int i', .int j'] ∧ (-(2 ^ 62) ≤ i' ∧ i' < 2 ^ 62 ∧ -(2 ^ 62) ≤ j' ∧ j' < 2 ^ 62) ∧ P i' j' := ⟨i, j, rfl, h, q⟩
theorem r_neB {a b : Bool} (q : Q (.bl (a != b)) H) : rNe (.bl a) (.bl b) H Q := ⟨rfl, by cases a <;> cases b <;> simpa using q⟩
theorem r_eqB {a b : Bool} (q : Q (.bl (a == b)) H) : rEq (.bl a) (.bl b) H Q := ⟨rfl, by cases a <;> cases b <;> simpa using q⟩
theorem r_gtup {n : Nat} {u : TGs} {p : Addr} {xs : List V} {q' : St → Hp → Prop} (h : SqT K H p xs) (hl : xs.length = n) (q : u xs σ H q') : gTup K n u (.ref p) σ H q' := ⟨p, xs, rfl, h, hl, q⟩
theorem r_gcons {t : TG} {u : TGs} {v : V} {r : List V} {q' : St → Hp → Prop} (q : t v σ H fun σ' H' => u r σ' H' q') : gCons t u (v :: r) σ H q' := ⟨v, r, rfl, q⟩
theorem r_gnil {q' : St → Hp → Prop} (q : q' σ H) : gNil [] σ H q' := ⟨rfl, q⟩
theorem r_rng {P : Int → Prop} {j : Int} (h1 : -(2 ^ 62) ≤ j) (h2 : j < 2 ^ 62) (q : P j) : ∃ k : Int, [V.int j] = [.int k] ∧ -(2 ^ 62) ≤ k ∧ k < 2 ^ 62 ∧ P k := ⟨j, rfl, h1, h2, q⟩
/-- a comprehension over a list that stands, of flat tests and elements: what it makes -/
theorem r_lc {wi : TI} {g : TG} {vs : List Nat} (q : wi σ H fun J H1 => ∀ D, H1 D = none → ∃ W : Nat → Nat → Hp → Prop, (∃ m, W 0 m (upd H1 D (.lst []))) ∧ ∀ i m H, W i m H →
    (J.stop i H ∧ Q (.ref D) H) ∨ (J.go i H ∧ ∃ Nx : Hp → Prop, (∀ H', Nx H' → ∃ m', m' < m ∧ W (i + 1) m' H') ∧ ∀ x H', J.yld i H x H' → g x (wipe σ vs) H' fun σ2 H2 => wipe σ2 vs = wipe σ vs ∧ tt σ2 H2 fun b H3 =>
      if b = true then te σ2 H3 fun y H4 => ∃ acc, H4 D = some (.lst acc) ∧ acc.length < sizeLine ∧ Nx (upd H4 D (.lst (acc ++ [y]))) else Nx H3)) : tLc wi g tt te vs σ H Q := q
/-! statements -/
theorem r_seq (q : t1 { D with nx := t2 D } σ H) : tSeq t1 t2 D σ H := q
theorem r_next (q : D.nx σ H) : tNext D σ H := q
theorem r_brk (q : D.bk σ H) : tBreak D σ H := q
theorem r_cont (q : D.ct σ H) : tCont D σ H := q
theorem r_asg {g : TG} (q : te σ H fun x H1 => g x σ H1 D.nx) : tAsg te g D σ H := q
theorem r_name {q' : St → Hp → Prop} (q : q' (σ.set i (some v)) H) : gName i v σ H q' := q
theorem r_par (q : tas σ H fun vs H1 => ∃ v w, vs = [v, w] ∧ D.nx ((σ.set i (some v)).set j (some w)) H1) : tPar i j tas D σ H := q
theorem r_two {v w : V} {P : V → V → Prop} (q : P v w) : ∃ x y, [v, w] = [x, y] ∧ P x y := ⟨v, w, rfl, q⟩
theorem r_ret (q : te σ H D.rt) : tRet te D σ H := q
theorem r_retN (q : D.rt .non H) : tRetN D σ H := q
theorem r_drop (q : te σ H fun _ H1 => D.nx σ H1) : tDrop te D σ H := q
theorem r_ifS (q : tt σ H fun b H1 => if b = true then t1 D σ H1 else t2 D σ H1) : tIfS tt t1 t2 D σ H := q
/-! branches -/
theorem if_d {c : Prop} [Decidable c] {A B : Prop} (h1 : c → A) (h2 : ¬ c → B) : if decide c = true then A else B := by
  by_cases h : c
  · rw [decide_eq_true h, if_pos rfl]; exact h1 h
  · rw [decide_eq_false h, if_neg Bool.false_ne_true]; exact h2 h
theorem if_nd {c : Prop} [Decidable c] {A B : Prop} (h1 : ¬ c → A) (h2 : c → B) : if (!decide c) = true then A else B := by
  by_cases h : c
  · rw [decide_eq_true h]; exact h2 h
  · rw [decide_eq_false h]; exact h1 h
theorem if_b {b : Bool} {A B : Prop} (h1 : b = true → A) (h2 : b = false → B) : if b = true then A else B := by
  cases b with
  | true => exact h1 rfl
  | false => exact h2 rfl
theorem if_nb {b : Bool} {A B : Prop} (h1 : b = false → A) (h2 : b = true → B) : if (!b) = true then A else B := by
  cases b with
  | true => exact h2 rfl
  | false => exact h1 rfl
theorem if_t {A B : Prop} (h : A) : if true = true then A else B := h
theorem if_f {A B : Prop} (h : B) : if false = true then A else B := h
theorem if_nt {A B : Prop} (h : A) : if (!false) = true then A else B := h
theorem if_nf {A B : Prop} (h : B) : if (!true) = true then A else B := h
/-- the loop of a comprehension over a list at a: test and element read values alone -/
theorem lc_pure {a : Addr} {xs : List V} {g : TG} {vs : List Nat} {D : Addr} {H1 : Hp} {Qd : Hp → Prop} (p : V → Bool) (f : V → V) (hD : H1 D = none) (ha : SqL K H1 a xs) (hz : xs.length < sizeLine)
    (hs : ∀ x ∈ xs, ∀ H, Same H1 H → ∀ R : St → Hp → Prop, (∀ σ2, wipe σ2 vs = wipe σ vs ∧ (∀ Q' : Bool → Hp → Prop, Q' (p x) H → tt σ2 H Q') ∧ (p x = true → ∀ Q' : VK, Q' (f x) H → te σ2 H Q') → R σ2 H) → g x (wipe σ vs) H R)
    (hd : ∀ H', Same H1 H' → H' D = some (.lst ((xs.filter p).map f)) → Qd H') :
    ∃ W : Nat → Nat → Hp → Prop, (∃ m, W 0 m (upd H1 D (.lst []))) ∧ ∀ i m H, W i m H →
      ((Itl K a).stop i H ∧ Qd H) ∨ ((Itl K a).go i H ∧ ∃ Nx : Hp → Prop, (∀ H', Nx H' → ∃ m', m' < m ∧ W (i + 1) m' H') ∧ ∀ x H', (Itl K a).yld i H x H' → g x (wipe σ vs) H' fun σ2 H2 => wipe σ2 vs = wipe σ vs ∧ tt σ2 H2 fun b H3 =>
        if b = true then te σ2 H3 fun y H4 => ∃ acc, H4 D = some (.lst acc) ∧ acc.length < sizeLine ∧ Nx (upd H4 D (.lst (acc ++ [y]))) else Nx H3) := by
  refine lc_list (K := K) (a := a) (xs := xs) (fun i H => Same H1 H ∧ H D = some (.lst (((xs.take i).filter p).map f))) ⟨same_new hD, by rw [upd_same]; rfl⟩ (fun i H _ w => w.1.seq ha) ?_ ?_
  · rintro i x H hi ⟨s, e⟩
    have hx : x ∈ xs := List.mem_of_getElem? hi
    have tk : xs.take (i + 1) = xs.take i ++ [x] := by rw [List.take_add_one, hi]; rfl
    refine hs x hx H s _ fun σ2 ⟨w, h1, h2⟩ => ⟨w, h1 _ ?_⟩
    cases c : p x with
    | true =>
      refine if_t (h2 c _ ⟨_, e, ?_, CP.Same.sb s hD sb_upd, ?_⟩)
      · have q1 := List.length_filter_le p (xs.take i)
        have q2 : (xs.take i).length = min i xs.length := List.length_take
        rw [List.length_map]
        omega
      · rw [upd_same, tk, List.filter_append, List.map_append, List.filter_cons_of_pos c]
        rfl
    | false =>
      refine if_f ⟨s, ?_⟩
      rw [tk, List.filter_append, List.filter_cons_of_neg (by rw [c]; decide), List.filter_nil, List.append_nil]
      exact e
  · rintro H ⟨s, e⟩
    rw [List.take_length] at e
    exact hd H s e
theorem r_sl {r : V → Option Int → Option Int → Hp → VK → Prop} {tl th : TO} (q : te σ H fun x H1 => tl σ H1 fun l H2 => th σ H2 fun u H3 => r x l u H3 Q) : tSl r te tl th σ H Q := q
theorem r_noPart {Q : Option Int → Hp → Prop} (q : Q none H) : tNoPart σ H Q := q
theorem r_part {Q : Option Int → Hp → Prop} (q : te σ H fun x H1 => ∃ i, x = .int i ∧ Q (some i) H1) : tPart te σ H Q := q
theorem r_int {i : Int} {P : Int → Prop} (q : P i) : ∃ k, V.int i = .int k ∧ P k := ⟨i, rfl, q⟩
theorem r_bm {T : String} {r : V → List V → Hp → VK → Prop} (q : ta σ H fun x H1 => tyV K T x H1 ∧ tas σ H1 fun xs H2 => r x xs H2 Q) : tBM K T r ta tas σ H Q := q
theorem r_bm0 {T : String} {r : V → List V → Hp → VK → Prop} (q : ta σ H fun x H1 => tyV K T x H1 ∧ r x [] H1 Q) : tBM0 K T r ta σ H Q := q
/-! loops -/
/-- a while: W tells the slots and the heap by a datum, μ falls -/
theorem r_while {α : Type} {c : TT} {tb : TS} (W : α → St → Hp → Prop) (μ : α → Nat) (a0 : α) (h0 : W a0 σ H)
    (hs : ∀ a σ H, W a σ H → c σ H fun b H1 => if b = true then tb { D with nx := fun σ' H' => ∃ a', W a' σ' H' ∧ μ a' < μ a, ct := fun σ' H' => ∃ a', W a' σ' H' ∧ μ a' < μ a, bk := D.nx } σ H1 else D.nx σ H1)
    (mono : ∀ σ H Q Q', (∀ b H1, Q b H1 → Q' b H1) → c σ H Q → c σ H Q') : tWhile c tb D σ H := by
  refine ⟨fun m σ H => ∃ a, μ a = m ∧ W a σ H, ⟨_, a0, rfl, h0⟩, ?_⟩
  rintro m σ H ⟨a, rfl, w⟩
  refine mono σ H _ _ (fun b H1 q => ?_) (hs a σ H w)
  cases b with
  | true => exact ⟨_, fun σ' H' ⟨a', w', l⟩ => ⟨_, l, a', rfl, w'⟩, q⟩
  | false => exact q
/-- the same where the test's outcome is known by the datum -/
theorem r_whileD {α : Type} {c : TT} {tb : TS} (W : α → St → Hp → Prop) (μ : α → Nat) (go : α → Bool) (a0 : α) (h0 : W a0 σ H)
    (hc : ∀ a σ H, W a σ H → ∀ Q : Bool → Hp → Prop, Q (go a) H → c σ H Q)
    (hs : ∀ a σ H, W a σ H → go a = true → tb { D with nx := fun σ' H' => ∃ a', W a' σ' H' ∧ μ a' < μ a, ct := fun σ' H' => ∃ a', W a' σ' H' ∧ μ a' < μ a, bk := D.nx } σ H)
    (hd : ∀ a σ H, W a σ H → go a = false → D.nx σ H) : tWhile c tb D σ H := by
  refine ⟨fun m σ H => ∃ a, μ a = m ∧ W a σ H, ⟨_, a0, rfl, h0⟩, ?_⟩
  rintro m σ H ⟨a, rfl, w⟩
  refine hc a σ H w _ ?_
  cases e : go a with
  | true =>
    rw [if_pos rfl]
    exact ⟨_, fun σ' H' ⟨a', w', l⟩ => ⟨_, l, a', rfl, w'⟩, hs a σ H w e⟩
  | false =>
    rw [if_neg Bool.false_ne_true]
    exact hd a σ H w e
theorem r_for {wi : TI} {g : TG} {tb : TS} (q : wi σ H fun J H1 => ∃ W : Nat → Nat → St → Hp → Prop, (∃ m, W 0 m σ H1) ∧ ∀ i m σ H, W i m σ H →
    (J.stop i H ∧ D.nx σ H) ∨ (J.go i H ∧ ∃ N : St → Hp → Prop, (∀ σ' H', N σ' H' → ∃ m', m' < m ∧ W (i + 1) m' σ' H') ∧ ∀ x H', J.yld i H x H' → g x σ H' fun σ2 H2 => tb { D with nx := N, ct := N, bk := D.nx } σ2 H2)) : tFor wi g tb D σ H := q
end
section
variable {H : Hp} {Q : VK} {p : Addr}
theorem r_notNr (q : Q (.bl true) H) : rNotN (.ref p) .non H Q := ⟨rfl, by rw [decide_eq_false (fun z => nomatch z)]; exact q⟩
theorem r_notNn (q : Q (.bl false) H) : rNotN .non .non H Q := ⟨rfl, by rw [decide_eq_true rfl]; exact q⟩
theorem r_isNr (q : Q (.bl false) H) : rIsN (.ref p) .non H Q := ⟨rfl, by rw [decide_eq_false (fun z => nomatch z)]; exact q⟩
theorem r_isNn (q : Q (.bl true) H) : rIsN .non .non H Q := ⟨rfl, by rw [decide_eq_true rfl]; exact q⟩
end
end CP

set_option Elab.async false
set_option linter.all false
set_option maxRecDepth 100000
set_option maxHeartbeats 4000000
set_option autoImplicit false
/-! lists of counts as values -/
namespace CP
open L2 PySem PyProof.Rows
def natL (l : List Nat) : List V := l.map fun n : Nat => V.int (n : Int)
theorem natL_int (l : List Nat) : natL l = (l.map fun n : Nat => (n : Int)).map V.int := by
  unfold natL
  rw [List.map_map]
  rfl
theorem natL_app (l m : List Nat) : natL (l ++ m) = natL l ++ natL m := List.map_append
theorem natL_length (l : List Nat) : (natL l).length = l.length := List.length_map _
theorem natL_one (n : Nat) : natL [n] = [.int (n : Int)] := rfl
theorem natL_get {l : List Nat} {i : Nat} {x : V} (h : (natL l)[i]? = some x) : ∃ n, l[i]? = some n ∧ x = .int (n : Int) := by
  unfold natL at h
  rw [List.getElem?_map] at h
  cases e : l[i]? with
  | none => rw [e] at h; cases h
  | some n => rw [e] at h; exact ⟨n, rfl, (Option.some.inj h).symm⟩
theorem take_succ {α : Type} {l : List α} {i : Nat} {n : α} (h : l[i]? = some n) : l.take (i + 1) = l.take i ++ [n] := by
  rw [List.take_add_one, h]
  rfl
theorem foldl_succ {α β : Type} {f : β → α → β} {b : β} {l : List α} {i : Nat} {n : α} (h : l[i]? = some n) : (l.take (i + 1)).foldl f b = f ((l.take i).foldl f b) n := by
  rw [take_succ h, List.foldl_append]
  rfl
theorem natL_flat (l : List Nat) : (natL l).all flatV = true := by
  unfold natL
  rw [List.all_map]
  exact List.all_eq_true.mpr fun _ _ => rfl
theorem inV_nat (n : Nat) (l : List Nat) : inV (.int (n : Int)) (natL l) = l.contains n := by
  unfold inV natL
  induction l with
  | nil => rfl
  | cons a l ih =>
    rw [List.map_cons, List.any_cons, ih, List.contains_cons]
    congr 1
    show ((a : Int) == (n : Int)) = (n == a)
    by_cases e : a = n
    · subst e; simp
    · have e1 : ((a : Int) == (n : Int)) = false := by rw [beq_eq_false_iff_ne]; omega
      have e2 : (n == a) = false := by rw [beq_eq_false_iff_ne]; exact fun z => e z.symm
      rw [e1, e2]
theorem natL_inj {l m : List Nat} (h : natL l = natL m) : l = m := by
  induction l generalizing m with
  | nil =>
    cases m with
    | nil => rfl
    | cons b m => cases h
  | cons a l ih =>
    cases m with
    | nil => cases h
    | cons b m =>
      have h1 := List.cons.inj h
      have e : (a : Int) = b := V.int.inj h1.1
      rw [ih h1.2, Int.ofNat.inj e]
/-- a sorted list of ints without doubles, the same members as a list of counts -/
theorem ints_nat {us : List Int} {l : List Nat} (h1 : us.Pairwise (· < ·)) (h2 : ∀ k, k ∈ us ↔ k ∈ l.map fun n : Nat => (n : Int)) : ∃ m : List Nat, us = m.map (fun n : Nat => (n : Int)) ∧ m.Pairwise (· < ·) ∧ ∀ n, n ∈ m ↔ n ∈ l := by
  have pos : ∀ k ∈ us, ∃ n : Nat, k = (n : Int) := fun k hk => by
    obtain ⟨n, _, e⟩ := List.mem_map.mp ((h2 k).mp hk)
    exact ⟨n, e.symm⟩
  have e : us = (us.map Int.toNat).map (fun n : Nat => (n : Int)) := by
    rw [List.map_map]
    conv => lhs; rw [← List.map_id us]
    refine List.map_congr_left fun k hk => ?_
    obtain ⟨n, rfl⟩ := pos k hk
    rfl
  refine ⟨us.map Int.toNat, e, ?_, fun n => ?_⟩
  · rw [List.pairwise_map]
    refine h1.imp_of_mem fun {a b} ha hb hab => ?_
    obtain ⟨x, rfl⟩ := pos a ha
    obtain ⟨y, rfl⟩ := pos b hb
    simp only [Int.toNat_natCast]
    omega
  · constructor
    · intro h
      obtain ⟨k, hk, rfl⟩ := List.mem_map.mp h
      obtain ⟨x, hx, rfl⟩ := List.mem_map.mp ((h2 k).mp hk)
      simpa using hx
    · intro h
      exact List.mem_map.mpr ⟨(n : Int), (h2 n).mpr (List.mem_map.mpr ⟨n, h, rfl⟩), by simp⟩
theorem inV_two (p a b : Int) : inV (.int p) [.int a, .int b] = decide (p = a ∨ p = b) := by
  unfold inV
  show (a == p || (b == p || false)) = _
  by_cases h1 : p = a
  · subst h1; simp
  · by_cases h2 : p = b
    · subst h2; simp
    · have e1 : (a == p) = false := by rw [beq_eq_false_iff_ne]; exact fun z => h1 z.symm
      have e2 : (b == p) = false := by rw [beq_eq_false_iff_ne]; exact fun z => h2 z.symm
      rw [e1, e2, decide_eq_false (by omega)]
      rfl
theorem count_nat (l : List Nat) (n : Nat) : (l.map fun n : Nat => (n : Int)).count (n : Int) = l.count n := by
  induction l with
  | nil => rfl
  | cons a l ih =>
    rw [List.map_cons, List.count_cons, List.count_cons, ih]
    by_cases e : a = n
    · subst e; simp
    · have e1 : ((a : Int) == (n : Int)) = false := by rw [beq_eq_false_iff_ne]; omega
      have e2 : (a == n) = false := by rw [beq_eq_false_iff_ne]; exact e
      rw [e1, e2]
/-- a loop over a range that may be left early: Post holds behind it -/
theorem for_rangeP {lo : Int} {n : Nat} {g : TG} {tb : TS} {D : Ends} {σ : L2.St} {H : Hp} (Pv : Nat → L2.St → Hp → Prop) (Post : L2.St → Hp → Prop) (h0 : Pv 0 σ H)
    (hs : ∀ i σ H, i < n → Pv i σ H → ∀ B : L2.St → Hp → Prop, (∀ σ H, Post σ H → B σ H) → g (.int (lo + i)) σ H fun σ2 H2 => tb { D with nx := Pv (i + 1), ct := Pv (i + 1), bk := B } σ2 H2)
    (he : ∀ σ H, Pv n σ H → Post σ H) (hd : ∀ σ H, Post σ H → D.nx σ H) :
    ∃ W : Nat → Nat → L2.St → Hp → Prop, (∃ m, W 0 m σ H) ∧ ∀ i m σ H, W i m σ H →
      ((Itr lo n).stop i H ∧ D.nx σ H) ∨ ((Itr lo n).go i H ∧ ∃ N : L2.St → Hp → Prop, (∀ σ' H', N σ' H' → ∃ m', m' < m ∧ W (i + 1) m' σ' H') ∧ ∀ x H', (Itr lo n).yld i H x H' → g x σ H' fun σ2 H2 => tb { D with nx := N, ct := N, bk := D.nx } σ2 H2) :=
  for_range Pv h0 (fun i σ H hi p => hs i σ H hi p _ hd) fun σ H p => hd σ H (he σ H p)
end CP

set_option Elab.async false
set_option linter.all false
set_option maxRecDepth 100000
set_option maxHeartbeats 4000000
/-! sets of ints and of texts made of a list; sorted(set(list)) -/
namespace CP
open PySem L2

/-- the object of a set just made -/
abbrev set0 (w : World) : Obj := { cls := .type "set", dict := none, data := .set #[] 0 (.fresh 0 0 (!w.params.followText "set-order")) }
abbrev lit0 (l : Addr) : Obj := { cls := .type "list_iterator", data := .fields #[.ref l, .int 0 0] }
section
variable {P : Program} {w : World} {A : Around} {E : Value → Shared → Prop} {s : Shared} {Fin : Heap → Prop}
set_option maxRecDepth 100000 in
set_option maxHeartbeats 4000000 in
/-- set(l), l a list: its loop is what the caller says (it leaves the set as Fin tells) -/
theorem set_of_list {l : Addr} {items : Array Value} {Q : Value → Shared → Prop} (hl : s.heap.IsList l items)
    (loop : ∀ (A' : Around) (R : Result → Shared → Prop) (s1 : Shared), A'.handled = A.handled → s1.heap = (s.heap.push (set0 w)).push (lit0 l) →
      (∀ s', Moved [s.heap.objs.size, s.heap.objs.size + 1] (fun a b => b = a) s1 s' → Fin s'.heap → R (.ok (.ret .none)) s') →
      codeAny (model P w) A' (.builtin "set.update.loop" ⟨[.ref s.heap.objs.size, .ref (s.heap.objs.size + 1)], []⟩) R s1)
    (h : ∀ (h' : Heap) (tk : Nat), Fin h' → (∀ b o, s.heap.get? b = some o → h'.get? b = some o) → Q (.ref s.heap.objs.size) { s with heap := h', toks := tk }) :
    wpAny (model P w) A (call (.type "set") [.ref l]) Q E s := by
  have f1 := F.called_set.made
  have f2 := F.called_set.sub
  have f3 := F.called_set.notType
  have f4 := F.called_set.canCreate
  have f5 := F.typeCall_set_1 (.ref l)
  obtain ⟨cn, tl, f6⟩ := F.called_set.mro
  refine wpAny_call (codeAny_of_tree ?_)
  show wpAny _ _ (callAny (.type "set") _) _ _ _
  have e0 := weight_type_call_type "set" [.ref l] []
  refine wpAny_pure ⟨Code.quiet_builtin _ (by decide +kernel),
    codeAny_builtin F.entry_type_call ?_⟩
  rw [Around.under_plain e0 rfl]
  repeat (any_goals (first | assumption | wp_step))
  refine codeAny_mono (code_set_led1 (.ref l) (E := E)
    (Q₁ := fun v s₁ => v = .ref s.heap.objs.size ∧ s₁ = { s with heap := s.heap.push (set0 w) }) ⟨rfl, rfl⟩) fun r s₁ hr => ?_
  cases r with
  | error e => exact hr
  | ok fl =>
    cases fl with
    | ret obj =>
      obtain ⟨rfl, rfl⟩ := hr
      have g0 : (s.heap.push (set0 w)).get? s.heap.objs.size = some (set0 w) := Heap.get?_push_size _ rfl
      have gT : Shared.TypeIs { s with heap := s.heap.push (set0 w) } (.ref s.heap.objs.size) "set" := ⟨_, g0, rfl⟩
      have f7 := F.called_set.init.lookup
      have f8 := F.called_set.init.bind (.ref s.heap.objs.size)
      repeat (any_goals (first | assumption | wp_step))
      refine codeAny_mono (codeAny_call_builtin
        (R := wants (fun r s₂ => r = .none ∧ ∃ h' tk, s₂ = { s with heap := h', toks := tk } ∧ Fin h' ∧ ∀ b o, s.heap.get? b = some o → h'.get? b = some o) E)
        F.called_set.init.plain F.entry_set_init (check_set_init_1 gT ?_)) fun r₂ s₂ hr₂ => ?_
      · obtain ⟨ol, hol, hcl, nl, hdl⟩ := hl
        obtain ⟨c1, c2, c3, c4⟩ := ol
        simp only at hcl hdl
        subst hcl; subst hdl
        have hol' : (s.heap.push (set0 w)).get? l = some { cls := .type "list", dict := c2, data := .seq items nl, slots := c4 } := Heap.get?_push_of_some _ hol
        have u1 := F.sub_list_set
        have u2 := F.sub_list_frozenset
        have u3 : (Value.type "list" == Value.type "dict") = false := by decide
        have hl1 : (s.heap.push (set0 w)).IsList l items := ⟨_, hol', rfl, nl, rfl⟩
        clear f1 f2 f3 f4 f5 f6 f7 f8 e0 g0 gT h
        unfold Builtin.«set.__init__» noKeywords Builtin.Frozenset.updateFrom
        generalize hPI : pyIter = PI
        wp_walk
        subst hPI
        refine wpAny_pyIter_list hl1 ?_
        refine wpAny_bind (wpAny_runValue ?_)
        have z1 : (s.heap.push (set0 w)).objs.size = s.heap.objs.size + 1 := Heap.size_push ..
        rw [z1]
        refine loop _ _ _ (by simp) rfl fun s' hm hF => ?_
        obtain ⟨h', g2, d', tk', os'⟩ := s'
        have q1 : g2 = s.gens := hm.gens
        have q2 : d' = s.drawn := hm.drawn
        have q3 : os' = s.os := hm.os
        subst q1; subst q2; subst q3
        show wpAny _ _ _ _ _ _
        refine wpAny_pure ?_
        show wpAny _ _ (ret Value.none) _ _ _
        refine wpAny_pure ⟨rfl, h', tk', rfl, hF, fun b o e => ?_⟩
        have lt := Heap.lt_size e
        refine hm.heap b o (fun z => ?_) (Heap.get?_push_of_some _ (Heap.get?_push_of_some _ e))
        rcases List.mem_cons.mp z with z | z
        · exact absurd z (Nat.ne_of_lt lt)
        · exact absurd (List.mem_singleton.mp z) (Nat.ne_of_lt (Nat.lt_succ_of_lt lt))
      · cases r₂ with
        | error e => exact hr₂
        | ok fl₂ =>
          cases fl₂ with
          | ret r =>
            obtain ⟨rfl, h', tk, rfl, hF, hk⟩ := hr₂
            repeat (any_goals (first | assumption | wp_step))
            exact h _ _ hF hk
          | _ => exact hr₂.elim
    | _ => exact hr.elim
end
end CP

set_option Elab.async false
set_option linter.all false
set_option maxRecDepth 100000
set_option maxHeartbeats 4000000
/-! sets of ints made of a list; sorted(set(list)) -/
namespace CP
open PySem L2
section
variable {P : Program} {w : World} {A : Around} {E : Value → Shared → Prop} {s : Shared}
/-- the loop over ints -/
theorem loop_ints {l : Addr} {items : Array Value} {ns : List Int} (hh : A.handled = none) (hl : s.heap.IsList l items) (hi : PyProof.Rows.IntsAre items.toList ns) (hb : ns.length + 1 < scanBound) :
    ∀ (A' : Around) (R : Result → Shared → Prop) (s1 : Shared), A'.handled = A.handled → s1.heap = (s.heap.push (set0 w)).push (lit0 l) →
      (∀ s', Moved [s.heap.objs.size, s.heap.objs.size + 1] (fun a b => b = a) s1 s' → (∃ c, c ≤ ns.length ∧ SetR w s'.heap s.heap.objs.size (fun j => decide (j ∈ ns)) c) → R (.ok (.ret .none)) s') →
      codeAny (model P w) A' (.builtin "set.update.loop" ⟨[.ref s.heap.objs.size, .ref (s.heap.objs.size + 1)], []⟩) R s1 := by
  intro A' R s1 hA e1 k
  have hsz : items.size = ns.length := by
    have q := PyProof.Rows.IntsAre.length hi
    rwa [Array.length_toList] at q
  have hlt : l < s.heap.objs.size := by
    obtain ⟨o, e, _⟩ := hl
    exact Heap.lt_size e
  have z1 : (s.heap.push (set0 w)).objs.size = s.heap.objs.size + 1 := Heap.size_push ..
  have g0 : s1.heap.get? s.heap.objs.size = some (set0 w) := by
    rw [e1]; exact Heap.get?_push_of_some _ (Heap.get?_push_size _ rfl)
  have gI : s1.heap.get? (s.heap.objs.size + 1) = some (lit0 l) := by
    have q := Heap.get?_push_size (o := lit0 l) (s.heap.push (set0 w)) rfl
    rw [z1] at q
    rw [e1]; exact q
  have gl : s1.heap.IsList l items := by rw [e1]; exact (hl.push _).push _
  have W := (Walks.list (prog := P) (w := w) (A := A'.in1) (by simp [hA, hh]) (s.heap.objs.size + 1) l (Nat.ne_of_lt (Nat.lt_succ_of_lt hlt)) items).toS
  refine set_update_ints W s.heap.objs.size ?_ ns hsz hb ?_ (items.size - 0) 0 s1 rfl (Nat.zero_le _) ⟨⟨_, gI, rfl, rfl⟩, gl⟩ ⟨0, Nat.le_refl 0, setR_new_at g0⟩ fun s' c hm hc hS => ?_
  · intro z
    rcases List.mem_cons.mp z with z | z
    · exact absurd z (Nat.ne_of_lt (Nat.lt_succ_self _))
    · exact absurd (List.mem_singleton.mp z) (Nat.ne_of_gt hlt)
  · intro i v hv
    have hin : i < ns.length := by rw [← hsz]; exact (Array.getElem?_eq_some_iff.mp hv).1
    obtain ⟨t, e⟩ := PyProof.Rows.IntsAre.int_at hi i v (by rw [Array.getElem?_toList]; exact hv)
    refine ⟨ns[i], t, List.getElem?_eq_getElem hin, ?_⟩
    rw [e, List.getD_eq_getElem?_getD, List.getElem?_eq_getElem hin]
    rfl
  · exact k s' hm ⟨c, by omega, hS⟩
end
/-- set(xs), a list of ints -/
def rSetI (K : PySem.W.Frag) (w : World) : List V → Hp → VK → Prop := fun xs H Q => ∃ (l : Addr) (ns : List Int), xs = [.ref l] ∧ SqL K H l (ns.map V.int) ∧ ns.length < 4000 ∧
  ∀ p c, H p = none → c ≤ ns.length → Q (.ref p) (upd H p (SetO w p (fun j => decide (j ∈ ns)) c))
section
variable {X : Cx}
theorem cr_setI (hc : X.calm = true) : CallR X (.type "set") (rSetI X.K X.w) := by
  intro pins s σ H xs us Q I r h
  obtain ⟨l, ns, rfl, hl, hn, q⟩ := h
  obtain ⟨u, rfl, ru⟩ := vals1 r
  cases (show u = Value.ref l from ru)
  obtain ⟨its, rv, pl, hz⟩ := I.list hl
  have hi : PyProof.Rows.IntsAre its.toArray.toList ns := by simpa using ints_of_vals rv
  have hd : X.A.handled = none := I.ok.hd hc
  refine set_of_list (P := X.prog) (w := X.w) (Fin := fun h => ∃ c, c ≤ ns.length ∧ SetR X.w h s.heap.objs.size (fun j => decide (j ∈ ns)) c) pl.isList (loop_ints hd pl.isList hi (by unfold scanBound; omega)) fun h' tk hF hk => ?_
  obtain ⟨c, hc', R⟩ := hF
  have fr := I.hok.fresh (Nat.le_refl s.heap.objs.size)
  exact ⟨.ref s.heap.objs.size, _, I.laid (t' := tk) hk (Nat.le_refl _) (setO_new R), rfl, q _ _ fr hc'⟩
end
/-- sorted(set(xs)), a list of less than 64 ints: from where set is called -/
theorem r_sortSetI {K : PySem.W.Frag} {w : World} {σ : St} {H : Hp} {Q : VK} {l : Addr} {ns : List Int} (hl : SqL K H l (ns.map V.int)) (hn : ns.length < 64)
    (k : ∀ (us : List Int) (p : Addr) (H' : Hp), us.Pairwise (· < ·) → (∀ k, k ∈ us ↔ k ∈ ns) → Same H H' → H p = none → H' p = some (.lst (us.map V.int)) → Q (.ref p) H') :
    rSetI K w [.ref l] H fun x H1 => tNil σ H1 fun xs H2 => rSortedSet w (x :: xs) H2 Q := by
  refine ⟨l, ns, rfl, hl, by omega, fun p c hp hc => ?_⟩
  refine r_nil ⟨p, _, c, rfl, upd_same, by omega, fun us p2 hu hk he h2 => ?_⟩
  have h3 : H p2 = none := by
    by_cases e : p2 = p
    · rw [e, upd_same] at h2; cases h2
    · rwa [upd_ne e] at h2
  exact k us p2 _ hu (fun z => by rw [hk]; simp) ((same_new hp).trans (same_new h2)) h3 upd_same
end CP

set_option Elab.async false
set_option linter.all false
set_option maxRecDepth 100000
set_option maxHeartbeats 4000000
set_option autoImplicit false
/-! calls with keywords alone; what a call with keywords binds -/
namespace CP
open L2 PySem PyProof.Rows

def tCallW (m : Nat) (sp : Sp) (gV : List V → List V) (E : XK) (tk : TA) : TE := fun σ H Q => tk σ H fun zs H2 => zs.length = m ∧ sp (gV zs) H2 Q E
/-- the keywords' values in the parameters' order -/
structure KB0 (K : PySem.W.Frag) (fd : FuncData) (ps ks : List Str) (g : List Value → List Value) (gV : List V → List V) : Prop where
  to : ∀ (s : Shared) (ws : List Value), K.In s.heap → ws.length = ks.length → BindsTo s fd ⟨[], ks.zip ws⟩ (ps.zip (g ws))
  rel : ∀ {zs : List V} {ws : List Value}, Vals zs ws → zs.length = ks.length → Vals (gV zs) (g ws)
section
variable {X : Cx} {CX : CXT} {k m : Nat} {f : Addr} {fd : FuncData} {ps ks : List Str} {sp : Sp} {E : XK} {x : Str} {p pos : Pos} {kws : List Keyword} {tk : TA} {g : List Value → List Value} {gV : List V → List V}
theorem pe_callW (F : FnOk X.prog X.w X.K X.mg X.base CX k f fd ps sp) (hr : Room k X.A) (hg : Gl X x) (hm : X.mg x = some (.ref f)) (hk : PySem.W.keepIn X.K (.ref f) = true) (hb : KB0 X.K fd ps ks g gV) (hx : Passes CX X E) (hkw : PK X kws tk)
    (hall : (backToKw pos (keywordEach kws X.env)).all (·.1.isSome) = true := by rfl) (hks : (backToKw pos (keywordEach kws X.env)).filterMap (·.1) = ks := by rfl) (hlen : ks.length = m := by rfl) (hdb : (x == ("__debug__" : Str)) = false := by decide)
    (hpl : ((backTo pos (starEach [] X.env)).any (·.1) || (backToKw pos (keywordEach kws X.env)).any (·.1.isNone)) = false := by rfl) :
    PE X (.Call (.Name x p) [] kws pos) (tCallW m sp gV E tk) := by
  subst hlen
  refine ⟨fun pins s σ H Q I h => ?_⟩
  refine wpAny_Call_Name_kw (ld_glob I hg hm ?_ hdb)
  refine PySem.W.callWith_KW0 (h₀ := X.base) I.ok.mod.kin hk hall (thn (hkw.run pos pins s σ H _ I h) fun ws s1 ⟨zs, H1, I1, r, l, q⟩ => ⟨I1.kIn, ?_⟩) hpl
  rw [hks]
  have lw : ws.length = ks.length := r.length.symm.trans l
  refine wpAny_call (codeAny_mono (F.run X.A X.stack s1 H1 ⟨[], ks.zip ws⟩ (g ws) (gV zs) Q E hr I1.env0 (hb.to s1 ws I1.kIn lw) (hb.rel r l) q) fun r s' hq => ?_)
  cases r with
  | error e => exact hx pins σ H1 s1 e s' I1 hq
  | ok fl =>
    cases fl with
    | ret u => exact I1.after hq
    | next => exact False.elim hq
    | brk => exact False.elim hq
    | cont => exact False.elim hq
end
/-- a def without defaults -/
theorem Fun.kb {K : PySem.W.Frag} {x qual : Str} {st : Stmt} {f : Addr} {fd : FuncData} {ps ks : List Str} {g : List Value → List Value} {gV : List V → List V} (F : Fun K x qual st f fd)
    (h : ∀ (kV doc pm : Value) (an : Option Addr) (cdv ct : Value) (ws : List Value), ws.length = ks.length → bindArgs (PySem.W.fnOf x qual (defArgs st) (defBody st) (defScope st) .none kV doc pm an cdv ct) ⟨[], ks.zip ws⟩ = pure (ps.zip (g ws)))
    (hr : ∀ {zs : List V} {ws : List Value}, Vals zs ws → zs.length = ks.length → Vals (gV zs) (g ws)) : KB0 K fd ps ks g gV := by
  obtain ⟨oc, od, kV, doc, pm, an, cdv, ct, osl, rfl, lk, hcd⟩ := F.ex
  exact ⟨fun s ws _ hl => .of_eq (h kV doc pm an cdv ct ws hl), hr⟩
/-- a def with defaults -/
theorem FunD.kb {K : PySem.W.Frag} {x qual : Str} {params : Arguments} {body : List Stmt} {scope : Scope} {dvs : List V} {f : Addr} {fd : FuncData} {ps ks : List Str} {g : List Value → List Value → List Value} {gV : List V → List V} (F : FunD K x qual params body scope dvs [] f fd) (hd : dvs ≠ [])
    (h : ∀ (T : Addr) (kV doc pm : Value) (an : Option Addr) (cdv ct : Value) (its ws : List Value), its.length = dvs.length → ws.length = ks.length →
      ∃ k, bindArgs (PySem.W.fnOf x qual params body scope (.ref T) kV doc pm an cdv ct) ⟨[], ks.zip ws⟩ = seqItems? (.ref T) >>= k ∧ k (some its.toArray) = pure (ps.zip (g its ws)))
    (hr : ∀ {its : List Value} {zs : List V} {ws : List Value}, Vals dvs its → Vals zs ws → zs.length = ks.length → Vals (gV zs) (g its ws)) : ∃ its, KB0 K fd ps ks (g its) gV := by
  obtain ⟨oc, od, dV, kV, doc, pm, an, cdv, ct, osl, rfl, lk, hcd, hD, hK⟩ := F.ex
  rcases hD with ⟨e, _⟩ | ⟨_, T, o, its, m, rfl, lT, oT, rT⟩
  · exact absurd e hd
  · refine ⟨its, fun s ws X hl => ?_, fun r l => hr rT r l⟩
    obtain ⟨k, e1, e2⟩ := h T kV doc pm an cdv ct its ws rT.length.symm hl
    refine BindsTo.of_looks fun M => ?_
    rw [e1]
    exact looks_items X lT oT (.of_pure e2)
section
variable {σ : L2.St} {H : Hp} {Q : VK} {m : Nat} {sp : Sp} {gV : List V → List V} {E : XK} {tk : TA}
theorem r_callW (q : tk σ H fun zs H2 => zs.length = m ∧ sp (gV zs) H2 Q E) : tCallW m sp gV E tk σ H Q := q
end
/-- positional values first, then keywords; no defaults -/
theorem Fun.kbn {K : PySem.W.Frag} {x qual : Str} {st : Stmt} {f : Addr} {fd : FuncData} {ps ks : List Str} {n : Nat} {g : List Value → List Value → List Value} {gV : List V → List V → List V} (F : Fun K x qual st f fd)
    (h : ∀ (kV doc pm : Value) (an : Option Addr) (cdv ct : Value) (us ws : List Value), us.length = n → ws.length = ks.length → bindArgs (PySem.W.fnOf x qual (defArgs st) (defBody st) (defScope st) .none kV doc pm an cdv ct) ⟨us, ks.zip ws⟩ = pure (ps.zip (g us ws)))
    (hr : ∀ {vs : List V} {us : List Value} {zs : List V} {ws : List Value}, Vals vs us → Vals zs ws → Vals (gV vs zs) (g us ws)) : KBn K fd ps n ks g gV := by
  obtain ⟨oc, od, kV, doc, pm, an, cdv, ct, osl, rfl, lk, hcd⟩ := F.ex
  exact ⟨fun s us ws _ l1 l2 => .of_eq (h kV doc pm an cdv ct us ws l1 l2), hr⟩
end CP

set_option Elab.async false
set_option linter.all false
set_option maxRecDepth 100000
set_option maxHeartbeats 4000000
set_option autoImplicit false
/-! comprehensions whose elements are told one by one, new objects among them -/
namespace CP
open L2 PySem PyProof.Rows
/-- the heap without one object -/
def hide (D : Addr) (H : Hp) : Hp := fun b => if b = D then none else H b
theorem hide_ne {D b : Addr} {H : Hp} (h : b ≠ D) : hide D H b = H b := if_neg h
theorem hide_same {D : Addr} {H : Hp} : Same (hide D H) H := fun b o h => by
  unfold hide at h
  split at h
  · cases h
  · exact h
theorem hide_upd {D : Addr} {H : Hp} {o : HO} : hide D (upd H D o) = hide D H := funext fun b => by
  unfold hide
  by_cases e : b = D
  · rw [if_pos e, if_pos e]
  · rw [if_neg e, if_neg e, upd_ne e]
theorem hide_mono {D : Addr} {H H' : Hp} (s : Same H H') : Same (hide D H) (hide D H') := fun b o h => by
  unfold hide at h ⊢
  by_cases e : b = D
  · rw [if_pos e] at h; cases h
  · rw [if_neg e] at h; rw [if_neg e]; exact s b o h
theorem hide_none {D : Addr} {H : Hp} (h : H D = none) : hide D H = H := funext fun b => by
  unfold hide
  by_cases e : b = D
  · rw [if_pos e, e, h]
  · rw [if_neg e]
theorem pd_mono {α β : Type} {R R' : α → β → Prop} {xs : List α} {ys : List β} (h : Paired R xs ys) (m : ∀ a b, R a b → R' a b) : Paired R' xs ys := by
  induction h with
  | nil => exact .nil
  | cons h _ ih => exact .cons (m _ _ h) ih
theorem pd_len {α β : Type} {R : α → β → Prop} {xs : List α} {ys : List β} (h : Paired R xs ys) : xs.length = ys.length := by
  induction h with
  | nil => rfl
  | cons _ _ ih => rw [List.length_cons, List.length_cons, ih]
theorem pd_app {α β : Type} {R : α → β → Prop} {xs xs' : List α} {ys ys' : List β} (h : Paired R xs ys) (h' : Paired R xs' ys') : Paired R (xs ++ xs') (ys ++ ys') := by
  induction h with
  | nil => exact h'
  | cons h _ ih => exact .cons h ih
theorem pd_one {α β : Type} {R : α → β → Prop} {x : α} {y : β} (h : R x y) : Paired R [x] [y] := .cons h .nil
theorem pd_get {α β : Type} {R : α → β → Prop} {xs : List α} {ys : List β} (h : Paired R xs ys) {i : Nat} {x : α} (e : xs[i]? = some x) : ∃ y, ys[i]? = some y ∧ R x y := by
  induction h generalizing i with
  | nil => cases e
  | cons h _ ih =>
    cases i with
    | zero => cases e; exact ⟨_, rfl, h⟩
    | succ i => exact ih (i := i) e
theorem pd_get' {α β : Type} {R : α → β → Prop} {xs : List α} {ys : List β} (h : Paired R xs ys) {i : Nat} {y : β} (e : ys[i]? = some y) : ∃ x, xs[i]? = some x ∧ R x y := by
  induction h generalizing i with
  | nil => cases e
  | cons h _ ih =>
    cases i with
    | zero => cases e; exact ⟨_, rfl, h⟩
    | succ i => exact ih (i := i) e
theorem pd_eq {α : Type} {xs ys : List α} (h : Paired (fun a b => a = b) xs ys) : xs = ys := by
  induction h with
  | nil => rfl
  | cons h _ ih => rw [h, ih]
theorem pd_map {α β γ : Type} {R : α → β → Prop} {f : γ → β} {xs : List α} {ys : List γ} (h : Paired (fun a c => R a (f c)) xs ys) : Paired R xs (ys.map f) := by
  induction h with
  | nil => exact .nil
  | cons h _ ih => exact .cons h ih
theorem same_seqT {K : PySem.W.Frag} {H H' : Hp} {a : Addr} {xs : List V} (s : Same H H') (h : SqT K H a xs) : SqT K H' a xs := by
  rcases h with (z | ⟨o, z⟩) | z
  · exact .inl (.inl (s _ _ z))
  · exact .inl (.inr ⟨o, s _ _ z⟩)
  · exact .inr z
section
variable {β : Type} {K : PySem.W.Frag} {a : Addr} {xs : List V} {g : TG} {tt : TT} {te : TE} {vs : List Nat} {σ : L2.St} {H1 : Hp} {D : Addr} {Qd : Hp → Prop}
/-- the state behind i turns -/
def Acc (R : Hp → V → β → Prop) (H1 : Hp) (D : Addr) (ys : List (Option β)) (i : Nat) (H : Hp) : Prop := Same H1 H ∧ ∃ acc, H D = some (.lst acc) ∧ Paired (R (hide D H)) acc ((ys.take i).filterMap id)
theorem acc_zero {R : Hp → V → β → Prop} {ys : List (Option β)} (hD : H1 D = none) : Acc R H1 D ys 0 (upd H1 D (.lst [])) := ⟨same_new hD, [], upd_same, by rw [List.take_zero]; exact .nil⟩
theorem acc_no {R : Hp → V → β → Prop} (mono : ∀ H H' v b, Same H H' → R H v b → R H' v b) {ys : List (Option β)} {i : Nat} {H H' : Hp} (p : Acc R H1 D ys i H) (h : ys[i]? = some none) (s : Same H H') : Acc R H1 D ys (i + 1) H' := by
  obtain ⟨s1, acc, e, pr⟩ := p
  refine ⟨s1.trans s, acc, CP.Same.to s e, ?_⟩
  rw [List.take_add_one, h]
  simp only [Option.toList_some, List.filterMap_append, List.filterMap_cons, id_eq, List.filterMap_nil, List.append_nil]
  exact pd_mono pr fun v b => mono _ _ v b (hide_mono s)
theorem acc_yes {R : Hp → V → β → Prop} (mono : ∀ H H' v b, Same H H' → R H v b → R H' v b) {ys : List (Option β)} {i : Nat} {z : β} {H H' : Hp} {y : V} (hD : H1 D = none) (hz : ys.length < sizeLine) (p : Acc R H1 D ys i H) (h : ys[i]? = some (some z)) (s : Same H H') (r : R (hide D H') y z) :
    ∃ acc, H' D = some (.lst acc) ∧ acc.length < sizeLine ∧ Acc R H1 D ys (i + 1) (upd H' D (.lst (acc ++ [y]))) := by
  obtain ⟨s1, acc, e, pr⟩ := p
  refine ⟨acc, CP.Same.to s e, ?_, CP.Same.sb (s1.trans s) hD sb_upd, acc ++ [y], upd_same, ?_⟩
  · rw [pd_len pr]
    refine Nat.lt_of_le_of_lt (List.length_filterMap_le ..) ?_
    rw [List.length_take]
    omega
  · rw [List.take_add_one, h, hide_upd]
    simp only [Option.toList_some, List.filterMap_append, List.filterMap_cons, id_eq, List.filterMap_nil]
    exact pd_app (pd_mono pr fun v b => mono _ _ v b (hide_mono s)) (pd_one r)
theorem acc_end {R : Hp → V → β → Prop} (mono : ∀ H H' v b, Same H H' → R H v b → R H' v b) {ys : List (Option β)} {H : Hp} (p : Acc R H1 D ys ys.length H) : Same H1 H ∧ ∃ acc, H D = some (.lst acc) ∧ Paired (R H) acc (ys.filterMap id) := by
  obtain ⟨s1, acc, e, pr⟩ := p
  rw [List.take_length] at pr
  exact ⟨s1, acc, e, pd_mono pr fun v b => mono _ _ v b hide_same⟩
/-- one turn: what has to be shown of it -/
def Turn (g : TG) (tt : TT) (te : TE) (vs : List Nat) (σ : L2.St) (R : Hp → V → β → Prop) (D : Addr) (H : Hp) (x : V) (o : Option β) : Prop :=
  ∀ N : Hp → Prop, (∀ H', o = none → Same H H' → N H') → (∀ H' y z, o = some z → Same H H' → R (hide D H') y z → ∃ acc, H' D = some (.lst acc) ∧ acc.length < sizeLine ∧ N (upd H' D (.lst (acc ++ [y])))) →
    g x (wipe σ vs) H fun σ2 H2 => wipe σ2 vs = wipe σ vs ∧ tt σ2 H2 fun b H3 => if b = true then te σ2 H3 fun y H4 => ∃ acc, H4 D = some (.lst acc) ∧ acc.length < sizeLine ∧ N (upd H4 D (.lst (acc ++ [y]))) else N H3
theorem turn_of {R : Hp → V → β → Prop} (mono : ∀ H H' v b, Same H H' → R H v b → R H' v b) {ys : List (Option β)} (hD : H1 D = none) (hz : ys.length < sizeLine) {i : Nat} {H : Hp} {x : V} {o : Option β} (p : Acc R H1 D ys i H) (h : ys[i]? = some o) (t : Turn g tt te vs σ R D H x o) :
    g x (wipe σ vs) H fun σ2 H2 => wipe σ2 vs = wipe σ vs ∧ tt σ2 H2 fun b H3 => if b = true then te σ2 H3 fun y H4 => ∃ acc, H4 D = some (.lst acc) ∧ acc.length < sizeLine ∧ Acc R H1 D ys (i + 1) (upd H4 D (.lst (acc ++ [y]))) else Acc R H1 D ys (i + 1) H3 :=
  t _ (fun H' e s => acc_no mono p (by rw [h, e]) s) fun H' y z e s r => acc_yes mono hD hz p (by rw [h, e]) s r
/-- over a list that stands -/
theorem lc_tell (R : Hp → V → β → Prop) (ys : List (Option β)) (hD : H1 D = none) (ha : SqL K H1 a xs) (hl : xs.length = ys.length) (hz : ys.length < sizeLine) (mono : ∀ H H' v b, Same H H' → R H v b → R H' v b)
    (hs : ∀ (i : Nat) (x : V) (o : Option β) (H : Hp), xs[i]? = some x → ys[i]? = some o → Same H1 H → (∃ acc, H D = some (.lst acc)) → Turn g tt te vs σ R D H x o)
    (hd : ∀ H acc, Same H1 H → H D = some (.lst acc) → Paired (R H) acc (ys.filterMap id) → Qd H) :
    ∃ W : Nat → Nat → Hp → Prop, (∃ m, W 0 m (upd H1 D (.lst []))) ∧ ∀ i m H, W i m H →
      ((Itl K a).stop i H ∧ Qd H) ∨ ((Itl K a).go i H ∧ ∃ Nx : Hp → Prop, (∀ H', Nx H' → ∃ m', m' < m ∧ W (i + 1) m' H') ∧ ∀ x H', (Itl K a).yld i H x H' → g x (wipe σ vs) H' fun σ2 H2 => wipe σ2 vs = wipe σ vs ∧ tt σ2 H2 fun b H3 =>
        if b = true then te σ2 H3 fun y H4 => ∃ acc, H4 D = some (.lst acc) ∧ acc.length < sizeLine ∧ Nx (upd H4 D (.lst (acc ++ [y]))) else Nx H3) := by
  refine lc_list (K := K) (a := a) (xs := xs) (Acc R H1 D ys) (acc_zero hD) (fun i H _ w => L2.Same.seq w.1 ha) (fun i x H hx p => ?_) fun H p => ?_
  · have hi : i < ys.length := by rw [← hl]; exact (List.getElem?_eq_some_iff.mp hx).1
    exact turn_of mono hD hz p (List.getElem?_eq_getElem hi) (hs i x _ H hx (List.getElem?_eq_getElem hi) p.1 (p.2.imp fun _ z => z.1))
  · rw [hl] at p
    obtain ⟨s, acc, e, pr⟩ := acc_end mono p
    exact hd H acc s e pr
theorem lc_tellT (R : Hp → V → β → Prop) (ys : List (Option β)) (hD : H1 D = none) (ha : SqT K H1 a xs) (hl : xs.length = ys.length) (hz : ys.length < sizeLine) (mono : ∀ H H' v b, Same H H' → R H v b → R H' v b)
    (hs : ∀ (i : Nat) (x : V) (o : Option β) (H : Hp), xs[i]? = some x → ys[i]? = some o → Same H1 H → (∃ acc, H D = some (.lst acc)) → Turn g tt te vs σ R D H x o)
    (hd : ∀ H acc, Same H1 H → H D = some (.lst acc) → Paired (R H) acc (ys.filterMap id) → Qd H) :
    ∃ W : Nat → Nat → Hp → Prop, (∃ m, W 0 m (upd H1 D (.lst []))) ∧ ∀ i m H, W i m H →
      ((Itt K a).stop i H ∧ Qd H) ∨ ((Itt K a).go i H ∧ ∃ Nx : Hp → Prop, (∀ H', Nx H' → ∃ m', m' < m ∧ W (i + 1) m' H') ∧ ∀ x H', (Itt K a).yld i H x H' → g x (wipe σ vs) H' fun σ2 H2 => wipe σ2 vs = wipe σ vs ∧ tt σ2 H2 fun b H3 =>
        if b = true then te σ2 H3 fun y H4 => ∃ acc, H4 D = some (.lst acc) ∧ acc.length < sizeLine ∧ Nx (upd H4 D (.lst (acc ++ [y]))) else Nx H3) := by
  refine lc_tup (K := K) (a := a) (xs := xs) (Acc R H1 D ys) (acc_zero hD) (fun i H _ w => same_seqT w.1 ha) (fun i x H hx p => ?_) fun H p => ?_
  · have hi : i < ys.length := by rw [← hl]; exact (List.getElem?_eq_some_iff.mp hx).1
    exact turn_of mono hD hz p (List.getElem?_eq_getElem hi) (hs i x _ H hx (List.getElem?_eq_getElem hi) p.1 (p.2.imp fun _ z => z.1))
  · rw [hl] at p
    obtain ⟨s, acc, e, pr⟩ := acc_end mono p
    exact hd H acc s e pr
theorem lc_tellR {lo : Int} {n : Nat} (R : Hp → V → β → Prop) (ys : List (Option β)) (hD : H1 D = none) (hl : n = ys.length) (hz : ys.length < sizeLine) (mono : ∀ H H' v b, Same H H' → R H v b → R H' v b)
    (hs : ∀ (i : Nat) (o : Option β) (H : Hp), i < n → ys[i]? = some o → Same H1 H → (∃ acc, H D = some (.lst acc)) → Turn g tt te vs σ R D H (.int (lo + i)) o)
    (hd : ∀ H acc, Same H1 H → H D = some (.lst acc) → Paired (R H) acc (ys.filterMap id) → Qd H) :
    ∃ W : Nat → Nat → Hp → Prop, (∃ m, W 0 m (upd H1 D (.lst []))) ∧ ∀ i m H, W i m H →
      ((Itr lo n).stop i H ∧ Qd H) ∨ ((Itr lo n).go i H ∧ ∃ Nx : Hp → Prop, (∀ H', Nx H' → ∃ m', m' < m ∧ W (i + 1) m' H') ∧ ∀ x H', (Itr lo n).yld i H x H' → g x (wipe σ vs) H' fun σ2 H2 => wipe σ2 vs = wipe σ vs ∧ tt σ2 H2 fun b H3 =>
        if b = true then te σ2 H3 fun y H4 => ∃ acc, H4 D = some (.lst acc) ∧ acc.length < sizeLine ∧ Nx (upd H4 D (.lst (acc ++ [y]))) else Nx H3) := by
  refine lc_range (Acc R H1 D ys) (acc_zero hD) (fun i H hi p => ?_) fun H p => ?_
  · have hi' : i < ys.length := by rw [← hl]; exact hi
    exact turn_of mono hD hz p (List.getElem?_eq_getElem hi') (hs i _ H hi (List.getElem?_eq_getElem hi') p.1 (p.2.imp fun _ z => z.1))
  · rw [hl] at p
    obtain ⟨s, acc, e, pr⟩ := acc_end mono p
    exact hd H acc s e pr
/-- over a text -/
theorem lc_tellS {z : Str} (R : Hp → V → β → Prop) (ys : List (Option β)) (hD : H1 D = none) (hl : z.cps.size = ys.length) (hz : ys.length < sizeLine) (mono : ∀ H H' v b, Same H H' → R H v b → R H' v b)
    (hs : ∀ (i : Nat) (c : Nat) (o : Option β) (H : Hp), z.cps[i]? = some c → ys[i]? = some o → Same H1 H → (∃ acc, H D = some (.lst acc)) → Turn g tt te vs σ R D H (.str ⟨#[c]⟩) o)
    (hd : ∀ H acc, Same H1 H → H D = some (.lst acc) → Paired (R H) acc (ys.filterMap id) → Qd H) :
    ∃ W : Nat → Nat → Hp → Prop, (∃ m, W 0 m (upd H1 D (.lst []))) ∧ ∀ i m H, W i m H →
      ((Its z).stop i H ∧ Qd H) ∨ ((Its z).go i H ∧ ∃ Nx : Hp → Prop, (∀ H', Nx H' → ∃ m', m' < m ∧ W (i + 1) m' H') ∧ ∀ x H', (Its z).yld i H x H' → g x (wipe σ vs) H' fun σ2 H2 => wipe σ2 vs = wipe σ vs ∧ tt σ2 H2 fun b H3 =>
        if b = true then te σ2 H3 fun y H4 => ∃ acc, H4 D = some (.lst acc) ∧ acc.length < sizeLine ∧ Nx (upd H4 D (.lst (acc ++ [y]))) else Nx H3) := by
  refine ⟨fun i m H => m = ys.length - i ∧ i ≤ ys.length ∧ Acc R H1 D ys i H, ⟨ys.length, by simp, Nat.zero_le _, acc_zero hD⟩, ?_⟩
  rintro i m H ⟨rfl, hi, p⟩
  by_cases lt : i < ys.length
  · refine .inr ⟨(by rw [hl]; exact lt : i < z.cps.size), Acc R H1 D ys (i + 1), fun H' p' => ⟨ys.length - (i + 1), by omega, rfl, lt, p'⟩, fun x H' y => ?_⟩
    obtain ⟨rfl, c, hc, rfl⟩ := y
    exact turn_of mono hD hz p (List.getElem?_eq_getElem lt) (hs i c _ _ hc (List.getElem?_eq_getElem lt) p.1 (p.2.imp fun _ z => z.1))
  · have e : i = ys.length := by omega
    subst e
    obtain ⟨s, acc, e, pr⟩ := acc_end mono p
    exact .inl ⟨(by rw [hl]; exact Nat.le_refl _ : z.cps.size ≤ ys.length), hd H acc s e pr⟩
theorem lc_noneL {xs : List V} (hD : H1 D = none) (ha : SqL K H1 a xs) (hz : xs.length < sizeLine)
    (hs : ∀ (i : Nat) (x : V) (H : Hp), xs[i]? = some x → Same H1 H → Turn (β := V) g tt te vs σ (fun _ x b => x = b) D H x none) (hd : ∀ H, Same H1 H → H D = some (.lst []) → Qd H) :
    ∃ W : Nat → Nat → Hp → Prop, (∃ m, W 0 m (upd H1 D (.lst []))) ∧ ∀ i m H, W i m H →
      ((Itl K a).stop i H ∧ Qd H) ∨ ((Itl K a).go i H ∧ ∃ Nx : Hp → Prop, (∀ H', Nx H' → ∃ m', m' < m ∧ W (i + 1) m' H') ∧ ∀ x H', (Itl K a).yld i H x H' → g x (wipe σ vs) H' fun σ2 H2 => wipe σ2 vs = wipe σ vs ∧ tt σ2 H2 fun b H3 =>
        if b = true then te σ2 H3 fun y H4 => ∃ acc, H4 D = some (.lst acc) ∧ acc.length < sizeLine ∧ Nx (upd H4 D (.lst (acc ++ [y]))) else Nx H3) := by
  refine lc_tell (β := V) (fun _ x b => x = b) (xs.map fun _ => none) hD ha (by rw [List.length_map]) (by rw [List.length_map]; exact hz) (fun _ _ _ _ _ z => z) (fun i x o H hx ho s1 _ => ?_) fun H acc s1 hacc pp => ?_
  · have e : o = none := by
      rw [List.getElem?_map, hx] at ho
      exact (Option.some.inj ho).symm
    subst e
    exact hs i x H hx s1
  · have e : acc = [] := by
      rw [pd_eq pp]
      clear pp hs hz ha
      induction xs with
      | nil => rfl
      | cons _ xs ih => exact ih
    subst e
    exact hd H s1 hacc
theorem lc_valsL {xs : List V} (ys : List V) (hD : H1 D = none) (ha : SqL K H1 a xs) (hl : xs.length = ys.length) (hz : ys.length < sizeLine)
    (hs : ∀ (i : Nat) (x y : V) (H : Hp), xs[i]? = some x → ys[i]? = some y → Same H1 H → Turn (β := V) g tt te vs σ (fun _ x b => x = b) D H x (some y)) (hd : ∀ H, Same H1 H → H D = some (.lst ys) → Qd H) :
    ∃ W : Nat → Nat → Hp → Prop, (∃ m, W 0 m (upd H1 D (.lst []))) ∧ ∀ i m H, W i m H →
      ((Itl K a).stop i H ∧ Qd H) ∨ ((Itl K a).go i H ∧ ∃ Nx : Hp → Prop, (∀ H', Nx H' → ∃ m', m' < m ∧ W (i + 1) m' H') ∧ ∀ x H', (Itl K a).yld i H x H' → g x (wipe σ vs) H' fun σ2 H2 => wipe σ2 vs = wipe σ vs ∧ tt σ2 H2 fun b H3 =>
        if b = true then te σ2 H3 fun y H4 => ∃ acc, H4 D = some (.lst acc) ∧ acc.length < sizeLine ∧ Nx (upd H4 D (.lst (acc ++ [y]))) else Nx H3) := by
  refine lc_tell (β := V) (fun _ x b => x = b) (ys.map some) hD ha (by rw [List.length_map]; exact hl) (by rw [List.length_map]; exact hz) (fun _ _ _ _ _ z => z) (fun i x o H hx ho s1 _ => ?_) fun H acc s1 hacc pp => ?_
  · rw [List.getElem?_map] at ho
    cases ey : ys[i]? with
    | none => rw [ey] at ho; cases ho
    | some y =>
      rw [ey] at ho
      cases ho
      exact hs i x y H hx ey s1
  · have e : acc = ys := by
      rw [pd_eq pp, List.filterMap_map]
      exact List.filterMap_some
    subst e
    exact hd H s1 hacc
theorem lc_noneT {xs : List V} (hD : H1 D = none) (ha : SqT K H1 a xs) (hz : xs.length < sizeLine)
    (hs : ∀ (i : Nat) (x : V) (H : Hp), xs[i]? = some x → Same H1 H → Turn (β := V) g tt te vs σ (fun _ x b => x = b) D H x none) (hd : ∀ H, Same H1 H → H D = some (.lst []) → Qd H) :
    ∃ W : Nat → Nat → Hp → Prop, (∃ m, W 0 m (upd H1 D (.lst []))) ∧ ∀ i m H, W i m H →
      ((Itt K a).stop i H ∧ Qd H) ∨ ((Itt K a).go i H ∧ ∃ Nx : Hp → Prop, (∀ H', Nx H' → ∃ m', m' < m ∧ W (i + 1) m' H') ∧ ∀ x H', (Itt K a).yld i H x H' → g x (wipe σ vs) H' fun σ2 H2 => wipe σ2 vs = wipe σ vs ∧ tt σ2 H2 fun b H3 =>
        if b = true then te σ2 H3 fun y H4 => ∃ acc, H4 D = some (.lst acc) ∧ acc.length < sizeLine ∧ Nx (upd H4 D (.lst (acc ++ [y]))) else Nx H3) := by
  refine lc_tellT (β := V) (fun _ x b => x = b) (xs.map fun _ => none) hD ha (by rw [List.length_map]) (by rw [List.length_map]; exact hz) (fun _ _ _ _ _ z => z) (fun i x o H hx ho s1 _ => ?_) fun H acc s1 hacc pp => ?_
  · have e : o = none := by
      rw [List.getElem?_map, hx] at ho
      exact (Option.some.inj ho).symm
    subst e
    exact hs i x H hx s1
  · have e : acc = [] := by
      rw [pd_eq pp]
      clear pp hs hz ha
      induction xs with
      | nil => rfl
      | cons _ xs ih => exact ih
    subst e
    exact hd H s1 hacc
theorem lc_valsT {xs : List V} (ys : List V) (hD : H1 D = none) (ha : SqT K H1 a xs) (hl : xs.length = ys.length) (hz : ys.length < sizeLine)
    (hs : ∀ (i : Nat) (x y : V) (H : Hp), xs[i]? = some x → ys[i]? = some y → Same H1 H → Turn (β := V) g tt te vs σ (fun _ x b => x = b) D H x (some y)) (hd : ∀ H, Same H1 H → H D = some (.lst ys) → Qd H) :
    ∃ W : Nat → Nat → Hp → Prop, (∃ m, W 0 m (upd H1 D (.lst []))) ∧ ∀ i m H, W i m H →
      ((Itt K a).stop i H ∧ Qd H) ∨ ((Itt K a).go i H ∧ ∃ Nx : Hp → Prop, (∀ H', Nx H' → ∃ m', m' < m ∧ W (i + 1) m' H') ∧ ∀ x H', (Itt K a).yld i H x H' → g x (wipe σ vs) H' fun σ2 H2 => wipe σ2 vs = wipe σ vs ∧ tt σ2 H2 fun b H3 =>
        if b = true then te σ2 H3 fun y H4 => ∃ acc, H4 D = some (.lst acc) ∧ acc.length < sizeLine ∧ Nx (upd H4 D (.lst (acc ++ [y]))) else Nx H3) := by
  refine lc_tellT (β := V) (fun _ x b => x = b) (ys.map some) hD ha (by rw [List.length_map]; exact hl) (by rw [List.length_map]; exact hz) (fun _ _ _ _ _ z => z) (fun i x o H hx ho s1 _ => ?_) fun H acc s1 hacc pp => ?_
  · rw [List.getElem?_map] at ho
    cases ey : ys[i]? with
    | none => rw [ey] at ho; cases ho
    | some y =>
      rw [ey] at ho
      cases ho
      exact hs i x y H hx ey s1
  · have e : acc = ys := by
      rw [pd_eq pp, List.filterMap_map]
      exact List.filterMap_some
    subst e
    exact hd H s1 hacc
theorem r_yes {σ : L2.St} {H : Hp} {Q : Bool → Hp → Prop} (q : Q true H) : tYes σ H Q := q
end
end CP

set_option Elab.async false
set_option linter.all false
set_option maxRecDepth 100000
set_option maxHeartbeats 4000000
set_option autoImplicit false
/-! dicts whose keys are numbers and texts: one step at a time -/
namespace CP
open L2 PySem PyProof.Rows
section
variable {K : PySem.W.Frag} {σ : L2.St} {H : Hp} {Q : VK} {d : Addr} {kvs : List (Key × V)} {v : V} {i : Int} {z : Str} {td ty tv : TE}
theorem r_tdni (q : ty σ H fun y H1 => td σ H1 fun x H2 => ∃ a o, x = .ref a ∧ DGet H2 a y o ∧ Q (.bl (!o.isSome)) H2) : tDNotIn ty td σ H Q := q
theorem r_tdin (q : ty σ H fun y H1 => td σ H1 fun x H2 => ∃ a o, x = .ref a ∧ DGet H2 a y o ∧ Q (.bl o.isSome) H2) : tDIn ty td σ H Q := q
theorem r_tdget (q : td σ H fun x H1 => ty σ H1 fun y H2 => ∃ a v, x = .ref a ∧ DGet H2 a y (some v) ∧ Q v H2) : tDGet td ty σ H Q := q
theorem r_lookI {P : Option V → Prop} (h : H d = some (.dK kvs)) (q : P (valV kvs (Sum.inl i))) : ∃ a o, V.ref d = .ref a ∧ DGet H a (.int i) o ∧ P o := ⟨d, _, rfl, DGet.k (k := Sum.inl i) h, q⟩
theorem r_lookS {P : Option V → Prop} (h : H d = some (.dK kvs)) (q : P (valV kvs (Sum.inr z))) : ∃ a o, V.ref d = .ref a ∧ DGet H a (.str z) o ∧ P o := ⟨d, _, rfl, DGet.k (k := Sum.inr z) h, q⟩
theorem r_dgetI {P : V → Prop} (h : H d = some (.dK kvs)) (e : valV kvs (Sum.inl i) = some v) (q : P v) : ∃ a v, V.ref d = .ref a ∧ DGet H a (.int i) (some v) ∧ P v := ⟨d, v, rfl, e ▸ DGet.k (k := Sum.inl i) h, q⟩
theorem r_dgetS {P : V → Prop} (h : H d = some (.dK kvs)) (e : valV kvs (Sum.inr z) = some v) (q : P v) : ∃ a v, V.ref d = .ref a ∧ DGet H a (.str z) (some v) ∧ P v := ⟨d, v, rfl, e ▸ DGet.k (k := Sum.inr z) h, q⟩
theorem r_dget2I {P : Option V → Prop} (h : H d = some (.dK kvs)) (q : P (valV kvs (Sum.inl i))) : ∃ o, DGet H d (.int i) o ∧ P o := ⟨_, DGet.k (k := Sum.inl i) h, q⟩
theorem r_dget2S {P : Option V → Prop} (h : H d = some (.dK kvs)) (q : P (valV kvs (Sum.inr z))) : ∃ o, DGet H d (.str z) o ∧ P o := ⟨_, DGet.k (k := Sum.inr z) h, q⟩
theorem r_isD {P : Addr → Prop} (h : H d = some (.dK kvs)) (q : P d) : ∃ a, V.ref d = .ref a ∧ IsD H a ∧ P a := ⟨d, rfl, .inl ⟨_, .inl h⟩, q⟩
theorem r_dputI {N : Hp → Prop} (h : H d = some (.dK kvs)) (l : kvs.length < sizeLine) (q : ∀ H', SB d H H' → H' d = some (.dK (putK kvs (Sum.inl i) v)) → N H') : ∃ a H', V.ref d = .ref a ∧ DPut H a (.int i) v H' ∧ N H' :=
  ⟨d, _, rfl, .inl ⟨kvs, Sum.inl i, h, rfl, l, rfl⟩, q _ sb_upd upd_same⟩
theorem r_dputS {N : Hp → Prop} (h : H d = some (.dK kvs)) (l : kvs.length < sizeLine) (q : ∀ H', SB d H H' → H' d = some (.dK (putK kvs (Sum.inr z) v)) → N H') : ∃ a H', V.ref d = .ref a ∧ DPut H a (.str z) v H' ∧ N H' :=
  ⟨d, _, rfl, .inl ⟨kvs, Sum.inr z, h, rfl, l, rfl⟩, q _ sb_upd upd_same⟩
theorem r_lenD (h : H d = some (.dK kvs)) (q : Q (.int kvs.length) H) : ∃ a kvs', V.ref d = .ref a ∧ H a = some (.dK kvs') ∧ Q (.int kvs'.length) H := ⟨d, kvs, rfl, h, q⟩
end
end CP

set_option Elab.async false
set_option linter.all false
set_option maxRecDepth 100000
set_option maxHeartbeats 4000000
/-! sets of texts: made of a list, sorted -/
namespace CP
open PySem L2 PySem.Spec PyProof.Rows
def txtOf (e : Int × Value) : Str := match e.2 with | .str x _ => x | _ => Str.empty
def TxtE (w : World) (e : Int × Value) : Prop := ∃ x tk, e.2 = Value.str x tk ∧ e.1 = hashStr w x
abbrev tkd (P : Program) (w : World) := PySem.strKind P w
/-- the set of texts at a: T its members, n how many; its table can be walked -/
def SetT (w : World) (h : Heap) (a : Addr) (T : Str → Bool) (n : Nat) : Prop :=
  ∃ o es ep tb, h.get? a = some o ∧ o.ExactSet ∧ o.data = .set es ep tb ∧ (∀ e ∈ es.toList, TxtE w e) ∧ (es.toList.map txtOf).Nodup ∧ (∀ x, T x = true ↔ x ∈ es.toList.map txtOf) ∧
    es.size < scanBound ∧ tb.fits es.size = true ∧ es.size = n ∧ Ris tb.place.toList ∧ (w.params.followText "set-order" = true ∨ tb.led = true)
section
variable {P : Program} {w : World} {h h' : Heap} {a : Addr} {T : Str → Bool} {n : Nat}
theorem SetT.there (R : SetT w h a T n) (k : ∀ o, h.get? a = some o → h'.get? a = some o) : SetT w h' a T n := by
  obtain ⟨o, es, ep, tb, got, more⟩ := R
  exact ⟨o, es, ep, tb, k o got, more⟩
theorem SetT.same {T' : Str → Bool} (R : SetT w h a T n) (e : ∀ x, T' x = T x) : SetT w h a T' n := (funext e : T' = T) ▸ R
theorem txt_elems {l : List (Int × Value)} (g : ∀ e ∈ l, TxtE w e) : ElemsOf (tkd P w) l := fun e he => by
  obtain ⟨x, tk, h1, h2⟩ := g e he
  exact ⟨⟨x, by rw [h1]; exact strKind_is P w x tk, h2⟩, by rw [h1] <;> rfl⟩
theorem txt_is {e : Int × Value} (g : TxtE w e) (x : Str) : (tkd P w).is x e.2 = true ↔ txtOf e = x := by
  obtain ⟨y, tk, h1, _⟩ := g
  unfold txtOf
  rw [h1]
  show ((y == x) = true) ↔ y = x
  exact beq_iff_eq
theorem txt_mem {l : List (Int × Value)} (g : ∀ e ∈ l, TxtE w e) (x : Str) : x ∈ l.map txtOf ↔ ∃ e ∈ l, (tkd P w).is x e.2 = true := by
  rw [List.mem_map]
  exact ⟨fun ⟨e, he, q⟩ => ⟨e, he, (txt_is (g e he) x).2 q⟩, fun ⟨e, he, q⟩ => ⟨e, he, (txt_is (g e he) x).1 q⟩⟩
end
section
variable {P : Program} {w : World} {A : Around} {E : Value → Shared → Prop} {s : Shared} {a : Addr} {T : Str → Bool} {n : Nat}
theorem tail_txt {gv : Bool → Sem Unit} (hgv : ∀ (b : Bool) (t : Shared) (J : Unit → Shared → Prop), J () t → wpAny (model P w) A (gv b) J E t)
    {o : Obj} {es : Array (Int × Value)} {ep : Nat} {tb : SetTable} (got : s.heap.get? a = some o) (ex : o.ExactSet) (dat : o.data = .set es ep tb)
    {fs : Array (Int × Value)} {tc : SetTable} {T' : Str → Bool} (ent : ∀ e ∈ fs.toList, TxtE w e) (dis : (fs.toList.map txtOf).Nodup) (mem : ∀ x, T' x = true ↔ x ∈ fs.toList.map txtOf)
    (below : fs.size < scanBound) (fit : tc.fits fs.size = true) (ris : Ris tc.place.toList) (led : w.params.followText "set-order" = true ∨ tc.led = true) {dum : Bool} {R : Option Bool → Shared → Prop}
    (fin : ∀ h', Heap.SameBut a s.heap h' → SetT w h' a T' fs.size → R (some true) { s with heap := h' }) :
    wpAny (model P w) A (do
        storeSet a fs tc
        if (!dum && tc.tooFull) = true then do
            gv (relayAll tc fs (SetTable.grown fs.size)).2.2
            storeSet a (relayAll tc fs (SetTable.grown fs.size)).1 (relayAll tc fs (SetTable.grown fs.size)).2.1
            pure (some true)
          else pure (some true)) R E s := by
  refine wpAny_bind (wpAny_storeSet_of got dat ?_ (fits_of_scanBound below))
  have got1 := store_at (es' := fs) (t' := tc) got dat
  have but1 := Heap.SameBut.update s.heap a (Obj.putSet fs tc)
  split
  · have z1 := relayAll_perm tc fs (SetTable.grown fs.size)
    have z2 := relayAll_fits tc fs (SetTable.grown fs.size)
    have z3 := relayAll_ris tc fs (SetTable.grown fs.size)
    have z4 := relayAll_led tc fs (SetTable.grown fs.size)
    generalize relayAll tc fs (SetTable.grown fs.size) = W at z1 z2 z3 z4 ⊢
    obtain ⟨gs, td, gave⟩ := W
    dsimp only at z1 z2 z3 z4 ⊢
    have size : gs.size = fs.size := by rw [← Array.length_toList, z1.length_eq, Array.length_toList]
    refine wpAny_bind (hgv _ _ _ ?_)
    refine wpAny_bind (wpAny_storeSet_of got1 rfl ?_ (fits_of_scanBound (by rw [size]; exact below)))
    have got2 := store_at (es' := gs) (t' := td) got1 rfl
    refine wpAny_pure (fin _ (but1.trans (Heap.SameBut.update _ a _)) ⟨_, gs, _, td, got2, ex, rfl, fun e he => ent e (z1.mem_iff.mp he), (z1.map txtOf).nodup_iff.mpr dis, fun x => (mem x).trans (z1.map txtOf).mem_iff.symm, by rw [size]; exact below, z2, size, z3, ?_⟩)
    exact led.imp id fun y => by rw [z4]; exact y
  · exact wpAny_pure (fin _ but1 ⟨_, fs, _, tc, got1, ex, rfl, ent, dis, mem, below, fit, rfl, ris, led⟩)
theorem add_txt {x : Str} {tk : Tok} {Q : Bool → Shared → Prop} (R : SetT w s.heap a T n) (room : n + 1 < scanBound)
    (q : ∀ h', Heap.SameBut a s.heap h' → SetT w h' a (fun y => T y || decide (y = x)) (if T x = true then n else n + 1) → Q (!T x) { s with heap := h' }) :
    wpAny (model P w) A (setAddHashed a (.str x tk) ((tkd P w).hash x)) Q E s := by
  obtain ⟨o, es, ep, tb, got, ex, dat, ent, dis, mem, below, fit, num, ris, led⟩ := R
  have key : (tkd P w).is x (.str x tk) = true := strKind_is P w x tk
  have sca : (Value.str x tk).scannable = true := rfl
  have els : ElemsOf (tkd P w) es.toList := txt_elems ent
  unfold setAddHashed; unfold setAddHashedIn
  refine wpAny_holding (wpAny_bind (wpAny_setState_of got dat fit ?_))
  dsimp only
  rw [byScan_of sca below els]
  simp only [↓reduceIte]
  unfold setAddByScan
  refine wpAny_bind (wpAny_bind (wpAny_rule ?_))
  refine wpAny_bind (wpAny_setScan_of key got dat fit els ?_)
  cases fi : List.findIdx? (fun e => (tkd P w).is x e.2) es.toList with
  | some j =>
    dsimp only
    obtain ⟨hj, pj, _⟩ := List.findIdx?_eq_some_iff_getElem.mp fi
    have yes : T x = true := (mem x).2 ((txt_mem (P := P) (w := w) ent x).2 ⟨es.toList[j], List.getElem_mem hj, pj⟩)
    have r := q s.heap (Heap.SameBut.refl a s.heap) ⟨o, es, ep, tb, got, ex, dat, ent, dis, fun y => by
      rw [Bool.or_eq_true, decide_eq_true_eq, ← mem y]
      exact ⟨fun z => z.elim id (fun e => e ▸ yes), .inl⟩, below, fit, by rw [if_pos yes]; exact num, ris, led⟩
    rw [yes] at r
    exact wpAny_pure (wpAny_pure r)
  | none =>
    dsimp only
    have absent : x ∉ es.toList.map txtOf := fun z => by
      obtain ⟨e, he, y⟩ := (txt_mem (P := P) (w := w) ent x).1 z
      have c := List.findIdx?_eq_none_iff.mp fi e he
      rw [y] at c
      cases c
    have no : T x = false := Bool.eq_false_iff.mpr fun z => absent ((mem x).1 z)
    have gw : ∀ (b : Bool) {t : Shared} {J : Unit → Shared → Prop}, J () t → wpAny (model P w) A (match b with | true => rule "set.scan.the-table-gave-way" | false => pure ()) J E t :=
      fun b t J j => by cases b <;> first | exact wpAny_pure j | exact wpAny_rule j
    have z1 := layNew_perm tb es ((tkd P w).hash x) (.str x tk)
    have z2 := layNew_fits tb es ((tkd P w).hash x) (.str x tk)
    have z3 := layNew_ris tb es ((tkd P w).hash x) (.str x tk) ris
    have z4 := layNew_led tb es ((tkd P w).hash x) (.str x tk)
    generalize layNew tb es ((tkd P w).hash x) (.str x tk) = W at z1 z2 z3 z4 ⊢
    obtain ⟨fs, tc, dum, gave⟩ := W
    dsimp only at z1 z2 z3 z4 ⊢
    rw [Array.toList_push] at z1
    have pc : fs.toList.Perm (((tkd P w).hash x, Value.str x tk) :: es.toList) := z1.trans (List.perm_append_singleton _ _)
    have pk : (fs.toList.map txtOf).Perm (x :: es.toList.map txtOf) := pc.map txtOf
    have ent1 : ∀ e ∈ fs.toList, TxtE w e := fun e he => (List.mem_cons.mp (pc.mem_iff.mp he)).elim (fun z => z ▸ ⟨x, tk, rfl, rfl⟩) (ent e)
    have dis1 : (fs.toList.map txtOf).Nodup := pk.nodup_iff.mpr (List.nodup_cons.mpr ⟨absent, dis⟩)
    have mem1 : ∀ y, (T y || decide (y = x)) = true ↔ y ∈ fs.toList.map txtOf := fun y => by
      rw [Bool.or_eq_true, decide_eq_true_eq, mem y, pk.mem_iff, List.mem_cons]
      exact Or.comm
    have size : fs.size = n + 1 := by rw [← Array.length_toList, pc.length_eq, List.length_cons, Array.length_toList, num]
    have below1 : fs.size < scanBound := by rw [size]; exact room
    have led1 : w.params.followText "set-order" = true ∨ tc.led = true := led.imp id fun z => by rw [z4]; exact z
    have fin : ∀ h', Heap.SameBut a s.heap h' → SetT w h' a (fun y => T y || decide (y = x)) fs.size → Q true { s with heap := h' } := fun h' sb r => by
      have j := q h' sb
      rw [no] at j
      rw [size] at r
      exact j r
    refine wpAny_bind (gw _ ?_)
    split
    · refine wpAny_bind ?_
      rw [hashByValue_scannable 8 sca]
      refine wpAny_pure (tail_txt ?_ got ex dat ent1 dis1 mem1 below1 ?_ ?_ ?_ ?_)
      · intro b t J j; cases b <;> first | exact wpAny_pure j | exact wpAny_rule j
      · first | (split <;> first | exact z2 | exact SetTable.fits_plain_off z2) | exact z2
      · first | (split <;> exact z3) | exact z3
      · first | (split <;> exact led1) | exact led1
      · intro h' sb r; dsimp only; exact wpAny_pure (fin h' sb r)
    · refine wpAny_bind (wpAny_pure ?_)
      simp only [↓reduceIte]
      refine tail_txt ?_ got ex dat ent1 dis1 mem1 below1 z2 z3 led1 ?_
      · intro b t J j; cases b <;> first | exact wpAny_pure j | exact wpAny_rule j
      · intro h' sb r; dsimp only; exact wpAny_pure (fin h' sb r)
theorem setT_new {h : Heap} {xs : List Str} (got : h.get? a = some (set0 w)) : SetT w h a (fun y => decide (y ∈ xs.take 0)) 0 :=
  ⟨_, #[], 0, _, got, ⟨rfl, rfl, rfl⟩, rfl, (fun e he => by simp at he), (by simp), (fun k => by simp), (by decide), (by rfl), rfl, List.Pairwise.nil, by
    show _ ∨ (!w.params.followText "set-order") = true
    cases w.params.followText "set-order"
    · exact .inr rfl
    · exact .inl rfl⟩
theorem update_txts {I : Addr} {fp wr : List Addr} {G : Array GenState → Array GenState → Prop} {n : Nat} {Pv : Nat → Value → Prop} {St : Nat → Shared → Prop} {R : Result → Shared → Prop}
    (W : WalksS P w A.in1 I fp wr G n Pv St) (D : Addr) (out : D ∉ fp) (xs : List Str) (len : n = xs.length) (below : xs.length + 1 < scanBound) (val : ∀ i v, Pv i v → ∃ x t, xs[i]? = some x ∧ v = .str x t) :
    ∀ (k i : Nat) (s : Shared), n - i = k → i ≤ n → St i s → (∃ c, c ≤ i ∧ SetT w s.heap D (fun y => decide (y ∈ xs.take i)) c) →
      (∀ s' c, Moved (D :: wr) G s s' → c ≤ n → SetT w s'.heap D (fun y => decide (y ∈ xs)) c → R (.ok (.ret .none)) s') →
      codeAny (model P w) A (.builtin "set.update.loop" ⟨[.ref D, .ref I], []⟩) R s := by
  have notw : D ∉ wr := fun z => out (W.sub _ z)
  have sub : ∀ b ∈ wr, b ∈ D :: wr := fun b hb => List.mem_cons_of_mem _ hb
  intro k
  induction k with
  | zero =>
    intro i s hk hi st ⟨c, hc, hS⟩ q
    obtain rfl : i = n := by omega
    refine codeAny_builtin F.entry_set_update_loop ?_
    rw [Around.under_plainId F.plain_set_update_loop _]
    show wpAny _ A.in1 (pyNext (.ref I) >>= _) _ _ s
    refine wpAny_bind (W.done s _ _ st fun t moved => ?_)
    show wpAny _ A.in1 (ret Value.none) _ _ t
    rw [List.take_of_length_le (by omega : xs.length ≤ i)] at hS
    exact wpAny_pure (q t c (moved.mono sub) hc (hS.there fun o e => moved.heap D o notw e))
  | succ k ih =>
    intro i s hk hi st ⟨c, hc, hS⟩ q
    have lt : i < n := by omega
    refine codeAny_builtin F.entry_set_update_loop ?_
    rw [Around.under_plainId F.plain_set_update_loop _]
    show wpAny _ A.in1 (pyNext (.ref I) >>= _) _ _ s
    refine wpAny_bind (W.item i s _ _ lt st fun v t hP st' moved => ?_)
    obtain ⟨x, tk, hx, rfl⟩ := val i v hP
    have hS' : SetT w t.heap D (fun y => decide (y ∈ xs.take i)) c := hS.there fun o e => moved.heap D o notw e
    show wpAny _ A.in1 (holding [Value.str x tk] (setAdd D (.str x tk)) >>= _) _ _ t
    refine wpAny_bind (wpAny_holding ?_)
    unfold setAdd
    refine wpAny_holding (wpAny_bind ((tkd P w).pyHash (k := x) (strKind_is _ _ _ _) ?_))
    refine add_txt (s := { t with toks := t.toks + 1 }) hS' (by omega) fun h' sb r => ?_
    have r3 : SetT w h' D (fun y => decide (y ∈ xs.take (i + 1))) (if decide (x ∈ xs.take i) = true then c else c + 1) := r.same fun y => by
      rw [List.take_add_one, hx]
      simp [List.mem_append]
    have c3 : (if decide (x ∈ xs.take i) = true then c else c + 1) ≤ i + 1 := by split <;> omega
    refine wpAny_pure ⟨plainId_quiet F.plain_set_update_loop _, ih (i + 1) _ (by omega) lt (W.frame _ t _ _ st' (Nat.le_succ _) fun b hb o e => ?_) ⟨_, c3, r3⟩ fun t2 c2 m2 hc2 hS2 => ?_⟩
    · rw [sb.2 b (fun z : b = D => out (by rw [← z]; exact hb))]; exact e
    · refine q t2 c2 (Moved.trans W.gtrans ((moved.mono sub).then_heap (Nat.le_succ _) fun b o hb e => ?_) m2) hc2 hS2
      rw [sb.2 b (fun z : b = D => hb (by rw [z]; exact List.mem_cons_self))]; exact e
theorem loop_txts {l : Addr} {items : Array Value} {xs : List Str} (cool : A.handled = none) (hl : s.heap.IsList l items) (hi : StrsAre items.toList xs) (below : xs.length + 1 < scanBound) :
    ∀ (A' : Around) (R : Result → Shared → Prop) (s1 : Shared), A'.handled = A.handled → s1.heap = (s.heap.push (set0 w)).push (lit0 l) →
      (∀ s', Moved [s.heap.objs.size, s.heap.objs.size + 1] (fun a b => b = a) s1 s' → (∃ c, c ≤ xs.length ∧ SetT w s'.heap s.heap.objs.size (fun y => decide (y ∈ xs)) c) → R (.ok (.ret .none)) s') →
      codeAny (model P w) A' (.builtin "set.update.loop" ⟨[.ref s.heap.objs.size, .ref (s.heap.objs.size + 1)], []⟩) R s1 := by
  intro A' R s1 hA e1 k
  have size : items.size = xs.length := by
    have q := StrsAre.length hi
    rwa [Array.length_toList] at q
  have low : l < s.heap.objs.size := Heap.lt_size hl.choose_spec.1
  have z1 : (s.heap.push (set0 w)).objs.size = s.heap.objs.size + 1 := Heap.size_push ..
  have g0 : s1.heap.get? s.heap.objs.size = some (set0 w) := e1 ▸ Heap.get?_push_of_some _ (Heap.get?_push_size _ rfl)
  have gI : s1.heap.get? (s.heap.objs.size + 1) = some (lit0 l) := by
    have q := Heap.get?_push_size (o := lit0 l) (s.heap.push (set0 w)) rfl
    rw [z1] at q
    exact e1 ▸ q
  have gl : s1.heap.IsList l items := e1 ▸ (hl.push _).push _
  have W := (Walks.list (prog := P) (w := w) (A := A'.in1) (by simp [hA, cool]) (s.heap.objs.size + 1) l (Nat.ne_of_lt (Nat.lt_succ_of_lt low)) items).toS
  refine update_txts W s.heap.objs.size ?_ xs size below ?_ (items.size - 0) 0 s1 rfl (Nat.zero_le _) ⟨⟨_, gI, rfl, rfl⟩, gl⟩ ⟨0, Nat.le_refl 0, setT_new g0⟩ fun s' c hm hc hS => k s' hm ⟨c, by omega, hS⟩
  · intro z
    rcases List.mem_cons.mp z with z | z
    · exact absurd z (Nat.ne_of_lt (Nat.lt_succ_self _))
    · exact absurd (List.mem_singleton.mp z) (Nat.ne_of_gt low)
  · intro i v hv
    have lt : i < xs.length := by rw [← size]; exact (Array.getElem?_eq_some_iff.mp hv).1
    obtain ⟨t, e⟩ := SS.strs_at hi i v (by rw [Array.getElem?_toList]; exact hv)
    refine ⟨xs[i], t, List.getElem?_eq_getElem lt, ?_⟩
    rw [e, List.getD_eq_getElem?_getD, List.getElem?_eq_getElem lt]
    rfl
theorem sort_txts {n : Nat} {Q : Value → Shared → Prop} (R : SetT w s.heap a T n) (cool : A.handled = none)
    (q : ∀ t p (out : Array Value) (c : Nat) (ys : List Str), (∀ b o, s.heap.get? b = some o → t.heap.get? b = some o) → t.gens = s.gens → t.os = s.os → s.heap.objs.size ≤ p → t.heap.get? p = some (seqObj "list" out c) →
      StrsAre out.toList ys → sortedS ys = true → ys.Nodup → (∀ x, x ∈ ys ↔ T x = true) → ys.length = n → Q (.ref p) t) : wpAny (model P w) A (call (.builtin "sorted") [.ref a]) Q E s := by
  obtain ⟨o, es, ep, tb, got, ex, dat, ent, dis, mem, below, fit, num, ris, led⟩ := R
  refine Calls.call_function_entry kind_sorted plain_sorted entry_sorted (args_sorted1 _) ?_
  unfold Builtin.«sorted»
  refine wpAny_bind (m := checkCount "sorted" 1 1 _) (wpAny_pure (wpAny_bind ?_))
  refine collect_set (A := A.in1) cool ⟨o, got, ex.1, dat⟩ fit below ris led fun t vals keep big gens os perm => ?_
  have many : vals.length = n := by rw [perm.length_eq, List.length_map, Array.length_toList]; exact num
  have small : vals.length ≤ sizeLine := by
    rw [perm.length_eq, List.length_map, Array.length_toList]
    exact fits_of_scanBound below
  have txs : StrsAre vals (vals.map PyProof.Rows.strOf) := strsAre_map vals fun v hv => by
    obtain ⟨e, he, z⟩ := List.mem_map.mp (perm.mem_iff.mp hv)
    obtain ⟨x, tk, h1, _⟩ := ent e he
    exact ⟨x, tk, by rw [← z]; exact h1⟩
  have perm2 := perm.map PyProof.Rows.strOf
  rw [List.map_map] at perm2
  have et : es.toList.map (PyProof.Rows.strOf ∘ fun e => e.2) = es.toList.map txtOf := List.map_congr_left fun e he => by
    obtain ⟨x, tk, h1, _⟩ := ent e he
    show PyProof.Rows.strOf e.2 = txtOf e
    unfold txtOf
    rw [h1]
    rfl
  rw [et] at perm2
  refine wpAny_bind (wpAny_newList (wpAny_bind (wpAny_holding ?_)) small)
  have got2 : (t.heap.push (seqObj "list" vals.toArray 0)).get? t.heap.objs.size = some (seqObj "list" vals.toArray 0) := Heap.get?_push_size _ rfl
  refine wpAny_call_entry slot_list_sort ⟨_, got2, rfl⟩ entry_list_sort ?_ (args_list_sort _)
  refine list_sort_treeKAny strKind_oneLt got2 txs.keysOf (fun v1 v2 rest e => keyKind_strs (by rw [← e]; exact txs)) small fun st' hp hs => ⟨_, rfl, wpAny_pure ⟨_, rfl, ?_⟩⟩
  obtain ⟨ys, k1, k2, k3⟩ := sorted_out_str txs hp hs
  obtain ⟨c, got3⟩ := sortedHeap_at (vs := vals) (out := (arrOf st').map (·.2)) got2
  have pn := k2.trans perm2
  refine q _ t.heap.objs.size _ c ys (fun b u z => ?_) gens os big got3 k1 k3 (pn.nodup_iff.mpr dis) (fun x => pn.mem_iff.trans (mem x).symm) (by rw [pn.length_eq, List.length_map, Array.length_toList]; exact num)
  have z1 := keep b u z
  have z2 := Heap.lt_size z1
  show (sortedHeap (t.heap.push (seqObj "list" vals.toArray 0)) t.heap.objs.size vals ((arrOf st').map (·.2))).get? b = some u
  rw [sortedHeap_old (Nat.ne_of_lt z2) (by rw [size_push']; exact Nat.lt_succ_of_lt z2)]
  exact Heap.get?_push_of_some _ z1
end
/-- the set object -/
def SetTO (w : World) (a : Addr) (T : Str → Bool) (n : Nat) : HO := .ext fun h => SetT w h a T n
theorem setT_ok {w : World} {P : Program} {H : Hp} {h : Heap} {a : Addr} {T : Str → Bool} {n : Nat} (R : SetT w h a T n) : ObjOk P w H h a (SetTO w a T n) :=
  ⟨R, R.imp fun o z => by obtain ⟨_, _, _, g, _⟩ := z; exact g, fun h1 h2 p k => SetT.there p k⟩
section
variable {X : Cx}
def rSetT (K : PySem.W.Frag) (w : World) : List V → Hp → VK → Prop := fun xs H Q => ∃ (l : Addr) (ys : List Str), xs = [.ref l] ∧ SqL K H l (ys.map V.str) ∧ ys.length < 4000 ∧
  ∀ p c, H p = none → c ≤ ys.length → Q (.ref p) (upd H p (SetTO w p (fun y => decide (y ∈ ys)) c))
theorem cr_setT (cool : X.calm = true) : CallR X (.type "set") (rSetT X.K X.w) := by
  intro pins s σ H xs us Q I r h
  obtain ⟨l, ys, rfl, hl, few, q⟩ := h
  obtain ⟨u, rfl, ru⟩ := vals1 r
  cases (show u = Value.ref l from ru)
  obtain ⟨its, rv, pl, hz⟩ := I.list hl
  have hi : StrsAre its.toArray.toList ys := by simpa using rv.strs
  refine set_of_list (P := X.prog) (w := X.w) (Fin := fun h => ∃ c, c ≤ ys.length ∧ SetT X.w h s.heap.objs.size (fun y => decide (y ∈ ys)) c) pl.isList (loop_txts (I.ok.hd cool) pl.isList hi (by unfold scanBound; omega)) fun h' tk hF hk => ?_
  obtain ⟨c, hc', R⟩ := hF
  have fr := I.hok.fresh (Nat.le_refl s.heap.objs.size)
  exact ⟨.ref s.heap.objs.size, _, I.laid (t' := tk) hk (Nat.le_refl _) (setT_ok R), rfl, q _ _ fr hc'⟩
def rSortT (w : World) : List V → Hp → VK → Prop := fun vs H Q => ∃ (a : Addr) (T : Str → Bool) (n : Nat), vs = [V.ref a] ∧ H a = some (SetTO w a T n) ∧ n ≤ 4000 ∧
  ∀ (ys : List Str) (p : Addr), sortedS ys = true → ys.Nodup → (∀ x, x ∈ ys ↔ T x = true) → H p = none → Q (.ref p) (upd H p (.lst (ys.map V.str)))
theorem cr_sortT (cool : X.calm = true) : CallR X (.builtin "sorted") (rSortT X.w) := by
  intro pins s σ H vs us Q I r h
  obtain ⟨a, T, n, rfl, ha, few, q⟩ := h
  rw [Vals.ref1 r]
  refine sort_txts (I.hok a _ ha).1 (I.ok.hd cool) fun t p out c ys keep gens os big got txs up dis mem many => ?_
  have free : H p = none := I.hok.fresh big
  have size : (ys.map V.str).length ≤ sizeLine := by rw [List.length_map, many, sizeLine_eq]; omega
  obtain ⟨th, tg, td, tt, to⟩ := t
  cases (show to = s.os from os)
  have keep' : ∀ b o, s.heap.get? b = some o → th.get? b = some o := keep
  have J := I.call (H' := upd H p (.lst (ys.map V.str))) (h' := th) (g' := tg) (d' := td) (t' := tt) (ch := []) (Un.laid keep' big free) (I.hok.laid keep' big ⟨size, out.toList, c, vals_of_strs txs, got⟩) (by rw [show tg = s.gens from gens]; exact I.bare) (fun _ z => nomatch z)
  exact ⟨.ref p, _, J, rfl, q ys p up dis mem free⟩
end
/-- sorted(set(xs)), xs a list of texts -/
theorem r_sortSetT {K : PySem.W.Frag} {w : World} {σ : L2.St} {H : Hp} {Q : VK} {l : Addr} {xs : List Str} (hl : SqL K H l (xs.map V.str)) (hn : xs.length < 4000)
    (k : ∀ (ys : List Str) (p : Addr) (H' : Hp), sortedS ys = true → ys.Nodup → (∀ x, x ∈ ys ↔ x ∈ xs) → Same H H' → H p = none → H' p = some (.lst (ys.map V.str)) → Q (.ref p) H') :
    rSetT K w [.ref l] H fun x H1 => tNil σ H1 fun zs H2 => rSortT w (x :: zs) H2 Q := by
  refine ⟨l, xs, rfl, hl, hn, fun p c hp hc => ?_⟩
  refine r_nil ⟨p, _, c, rfl, upd_same, by omega, fun ys p2 hs hd hm h2 => ?_⟩
  have h3 : H p2 = none := by
    by_cases e : p2 = p
    · rw [e, upd_same] at h2; cases h2
    · rwa [upd_ne e] at h2
  exact k ys p2 _ hs hd (fun z => by rw [hm]; simp) ((same_new hp).trans (same_new h2)) h3 upd_same
end CP

set_option Elab.async false
set_option linter.all false
set_option maxRecDepth 100000
set_option maxHeartbeats 4000000
set_option autoImplicit false
/-! == and != of equal data of any shape: lists, tuples, dicts -/
namespace CP
open PySem L2 PySem.Spec PyProof.Rows PySem.SeqAt
open MeetsSeq3 (plain_eq_loop entry_eq_loop)
section
variable {prog : Program} {w : World}
/-- != of two tuples whose items are equal -/
theorem tup_ne_same (l b : Addr) (us vs : Array Value) (m m2 : Nat) (dd dd2 : Option Addr) (sl sl2 : Array (Option Value)) (sz : us.size = vs.size) :
    MeetsIn prog w (Builtin.«tuple.__ne__» ⟨[.ref l, .ref b], []⟩)
      (fun A R s => s.heap.get? l = some { cls := .type "tuple", dict := dd, data := .seq us m, slots := sl } ∧ s.heap.get? b = some { cls := .type "tuple", dict := dd2, data := .seq vs m2, slots := sl2 } ∧
        (∀ j (h1 : j < us.size) (h2 : j < vs.size), EqP prog w A.in1 s us[j] vs[j] true) ∧ R (.ok (.ret (.bool false))) s) := by
  intro A R s h
  obtain ⟨hp, g, d, tk, os⟩ := s
  obtain ⟨hl, hb, he, h⟩ := h
  have f2 := AutoSeq1.sub_tuple_tuple
  have zl : (us.toList.zip vs.toList).length = us.size := by simp [sz]
  wp_walk using wpAny_loadPart' hl, wpAny_loadPart' hb, wpAny_forIn_list _ (fun rest b s' => b.1 = none ∧ s' = ⟨hp, g, d, tk, os⟩ ∧ ∃ i, rest = (us.toList.zip vs.toList).drop i) _
  case turn =>
    rintro ⟨y, x⟩ rest c s' ⟨hc, rfl, i, hz⟩
    have lt : i < (us.toList.zip vs.toList).length := by
      rcases Nat.lt_or_ge i (us.toList.zip vs.toList).length with k | k
      · exact k
      · rw [List.drop_of_length_le k] at hz; cases hz
    have l1 : i < us.size := zl ▸ lt
    have l2 : i < vs.size := sz ▸ l1
    rw [List.drop_eq_getElem_cons lt] at hz
    injection hz with hyx more
    have ey : y = us[i] := by simpa using congrArg Prod.fst hyx
    have ex : x = vs[i] := by simpa using congrArg Prod.snd hyx
    subst ey ex
    refine wpAny_bind (he i l1 l2 _ _ ?_)
    wp_walk
    exact ⟨rfl, rfl, i + 1, more⟩
  case fin =>
    rintro ⟨b1, b2⟩ s' ⟨hc, rfl, i, hz⟩
    simp only at hc
    subst hc
    wp_walk
    simpa [Builtin.Tuple.tupleCompareSizes, bne, sz] using h
  case h =>
    exact ⟨rfl, rfl, 0, rfl⟩
theorem rc_tup_ne {A : Around} {s : Shared} {l b : Addr} {us vs : Array Value} (hl : s.heap.IsTuple l us) (hb : s.heap.IsTuple b vs) (sz : us.size = vs.size) (hu : A.units < cLine)
    (he : ∀ j (h1 : j < us.size) (h2 : j < vs.size), EqP prog w A.in1 s us[j] vs[j] true) (E Q : Value → Shared → Prop) (h : Q (.bool false) s) : wpAny (model prog w) A (richCompare .NotEq (.ref l) (.ref b)) Q E s := by
  obtain ⟨⟨c1, d1, x1, s1⟩, o1, e1, m1, z1⟩ := id hl
  obtain ⟨⟨c2, d2, x2, s2⟩, o2, e2, m2, z2⟩ := id hb
  simp only at e1 z1 e2 z2
  subst e1 z1 e2 z2
  exact wpAny_richCompare_same_room (op := .NotEq) ⟨_, o1, rfl⟩ ⟨_, o2, rfl⟩ F.slot_tuple_ne (call_meetsIn F.slot_tuple_ne ⟨_, o1, rfl⟩ F.entry_tuple_ne (F.args_tuple_ne_2 _ _) (tup_ne_same l b us vs m1 m2 d1 d2 s1 s2 sz)
    ⟨o1, o2, he, show Value.bool false ≠ Value.notImplemented ∧ Q (.bool false) s from ⟨(fun x => nomatch x), h⟩⟩) hu
/-- the loop of two lists whose items are equal -/
theorem lst_ne_loop (l b : Addr) (us vs : Array Value) (m m2 : Nat) (dd dd2 : Option Addr) (sl sl2 : Array (Option Value)) (sz : us.size = vs.size) :
    ∀ k i : Nat, us.size - i = k → MeetsIn prog w (Builtin.«list.__eq__.loop» ⟨[.ref l, .ref b, rawInt i, rawInt 3], []⟩)
      (fun A R s => s.heap.get? l = some { cls := .type "list", dict := dd, data := .seq us m, slots := sl } ∧ s.heap.get? b = some { cls := .type "list", dict := dd2, data := .seq vs m2, slots := sl2 } ∧
        (∀ j (h1 : j < us.size) (h2 : j < vs.size), EqP prog w A.in1 s us[j] vs[j] true) ∧ R (.ok (.ret (.bool false))) s)
  | 0, i, hk => by
    intro A R s h
    obtain ⟨hp, g, d, tk, os⟩ := s
    obtain ⟨hl, hb, he, h⟩ := h
    wp_walk using wpAny_loadPart' hl, wpAny_loadPart' hb
    have q1 : us[((i : Nat) : Int).toNat]? = none := by simp; omega
    have q2 : vs[((i : Nat) : Int).toNat]? = none := by simp; omega
    rw [q1, q2]
    wp_walk using wpAny_loadPart' hl, wpAny_loadPart' hb
    show R (.ok (.ret (.bool (us.size != vs.size)))) _
    rw [sz]
    simpa using h
  | k + 1, i, hk => by
    intro A R s h
    obtain ⟨hp, g, d, tk, os⟩ := s
    obtain ⟨hl, hb, he, h⟩ := h
    wp_walk using wpAny_loadPart' hl, wpAny_loadPart' hb
    have l1 : i < us.size := by omega
    have l2 : i < vs.size := by omega
    have q1 : us[((i : Nat) : Int).toNat]? = some us[i] := by simp [l1]
    have q2 : vs[((i : Nat) : Int).toNat]? = some vs[i] := by simp [l2]
    have q3 : ((i : Int) + 1) = ((i + 1 : Nat) : Int) := by push_cast; rfl
    rw [q1, q2]
    refine wpAny_bind (he i l1 l2 _ _ ?_)
    wp_walk
    rw [q3]
    exact ⟨plainId_quiet plain_eq_loop _, codeAny_builtin entry_eq_loop (by
      rw [Around.under_plainId plain_eq_loop _]
      exact lst_ne_loop l b us vs m m2 dd dd2 sl sl2 sz k (i + 1) (by omega) A R _ ⟨hl, hb, he, h⟩)⟩
theorem lst_ne_same (l b : Addr) (us vs : Array Value) (m m2 : Nat) (dd dd2 : Option Addr) (sl sl2 : Array (Option Value)) (sz : us.size = vs.size) :
    MeetsIn prog w (Builtin.«list.__ne__» ⟨[.ref l, .ref b], []⟩)
      (fun A R s => s.heap.get? l = some { cls := .type "list", dict := dd, data := .seq us m, slots := sl } ∧ s.heap.get? b = some { cls := .type "list", dict := dd2, data := .seq vs m2, slots := sl2 } ∧
        (∀ j (h1 : j < us.size) (h2 : j < vs.size), EqP prog w A.in1 s us[j] vs[j] true) ∧ R (.ok (.ret (.bool false))) s) := by
  intro A R s h
  obtain ⟨hp, g, d, tk, os⟩ := s
  obtain ⟨hl, hb, he, h⟩ := h
  have f3 := AutoSeq1.sub_list_list
  have hne : ¬ (us.size != vs.size) = true := by simp [sz]
  wp_walk using wpAny_loadPart' hl, wpAny_loadPart' hb
  exact ⟨plainId_quiet plain_eq_loop _, codeAny_builtin entry_eq_loop (by
    rw [Around.under_plainId plain_eq_loop _]
    exact lst_ne_loop l b us vs m m2 dd dd2 sl sl2 sz _ 0 rfl A R _ ⟨hl, hb, he, h⟩)⟩
theorem rc_lst_ne {A : Around} {s : Shared} {l b : Addr} {us vs : Array Value} (hl : s.heap.IsList l us) (hb : s.heap.IsList b vs) (sz : us.size = vs.size) (hu : A.units < cLine)
    (he : ∀ j (h1 : j < us.size) (h2 : j < vs.size), EqP prog w A.in1 s us[j] vs[j] true) (E Q : Value → Shared → Prop) (h : Q (.bool false) s) : wpAny (model prog w) A (richCompare .NotEq (.ref l) (.ref b)) Q E s := by
  obtain ⟨⟨c1, d1, x1, s1⟩, o1, e1, m1, z1⟩ := id hl
  obtain ⟨⟨c2, d2, x2, s2⟩, o2, e2, m2, z2⟩ := id hb
  simp only at e1 z1 e2 z2
  subst e1 z1 e2 z2
  exact wpAny_richCompare_same_room (op := .NotEq) ⟨_, o1, rfl⟩ ⟨_, o2, rfl⟩ F.slot_list_ne (call_meetsIn F.slot_list_ne ⟨_, o1, rfl⟩ F.entry_list_ne (F.args_list_ne_2 _ _) (lst_ne_same l b us vs m1 m2 d1 d2 s1 s2 sz)
    ⟨o1, o2, he, show Value.bool false ≠ Value.notImplemented ∧ Q (.bool false) s from ⟨(fun x => nomatch x), h⟩⟩) hu
theorem rc_tup_eq {A : Around} {s : Shared} {l b : Addr} {us vs : Array Value} (hl : s.heap.IsTuple l us) (hb : s.heap.IsTuple b vs) (sz : us.size = vs.size) (hu : A.units < cLine)
    (he : ∀ j (h1 : j < us.size) (h2 : j < vs.size), EqP prog w A.in1 s us[j] vs[j] true) (E Q : Value → Shared → Prop) (h : Q (.bool true) s) : wpAny (model prog w) A (richCompare .Eq (.ref l) (.ref b)) Q E s :=
  GQ.rc_tupG sz hu (fun _ t => t = s) hl hb (fun i h1 h2 t e => by
    subst e
    exact he i h1 h2 E _ ⟨rfl, rfl⟩) (fun t e => by subst e; exact h) rfl
end
/-! equal values: of nesting below n -/
/-- two lists, two tuples of equal items; two dicts of the same keys whose values are equal -/
def SqR (K : PySem.W.Frag) (H : Hp) (E : V → V → Prop) (x y : V) : Prop :=
  (∃ a b xs ys, x = .ref a ∧ y = .ref b ∧ SqL K H a xs ∧ SqL K H b ys ∧ Paired E xs ys) ∨ (∃ a b xs ys, x = .ref a ∧ y = .ref b ∧ SqT K H a xs ∧ SqT K H b ys ∧ Paired E xs ys) ∨
    ∃ a b ks ls, x = .ref a ∧ y = .ref b ∧ H a = some (.dK ks) ∧ H b = some (.dK ls) ∧ ks.length = ls.length ∧ ∀ p ∈ ks, ∃ u, valV ls p.1 = some u ∧ E p.2 u
def SqV (K : PySem.W.Frag) (H : Hp) : Nat → V → V → Prop
  | 0 => fun _ _ => False
  | n + 1 => fun x y => (x = y ∧ flatB x = true) ∨ (∃ a, x = .ref a ∧ y = .ref a) ∨ SqR K H (SqV K H n) x y
section
variable {X : Cx} {pins : List (Addr × Obj)} {σ : L2.St} {H : Hp} {s : Shared}
theorem sqR_eq (I : Inv X pins σ H s) {A : Around} {F : V → V → Prop} (hu : A.units < cLine) (ih : ∀ x y v u, F x y → RelV x v → RelV y u → EqP X.prog X.w A.in1 s v u true) {x y : V} {v u : Value} (h : SqR X.K H F x y) (rx : RelV x v) (ry : RelV y u)
    (E Q : Value → Shared → Prop) (q : Q (.bool true) s) : wpAny (model X.prog X.w) A (richCompare .Eq v u) Q E s := by
  rcases h with h | ⟨a, b, xs, ys, rfl, rfl, ha, hb, hp⟩ | h
  · exact eqR_run I hu ih (.inl h) rx ry E Q q
  · cases (show v = Value.ref a from rx)
    cases (show u = Value.ref b from ry)
    obtain ⟨us, r1, p1, _⟩ := I.tuple ha
    obtain ⟨ws, r2, p2, _⟩ := I.tuple hb
    have sz : us.toArray.size = ws.toArray.size := by
      rw [List.size_toArray, List.size_toArray, ← r1.length, ← r2.length]
      exact Paired.length hp
    exact rc_tup_eq p1 p2 sz hu (fun j h1 h2 => by simpa using items_run ih hp r1 r2 j (by simpa using h1) (by simpa using h2)) E Q q
  · exact eqR_run I hu ih (.inr h) rx ry E Q q
theorem sqV_eq (I : Inv X pins σ H s) : ∀ (n : Nat) (A : Around), A.units + n < cLine → ∀ (x y : V) (v u : Value), SqV X.K H n x y → RelV x v → RelV y u → EqP X.prog X.w A s v u true
  | 0, _, _, _, _, _, _, h, _, _ => (show False from h).elim
  | n + 1, A, hu, x, y, v, u, h, rx, ry => by
    rcases h with ⟨rfl, f⟩ | ⟨a, rfl, rfl⟩ | h
    · exact (eqAt_same rx ry f).eqP
    · cases (show v = Value.ref a from rx)
      cases (show u = Value.ref a from ry)
      exact (EqAt.same _).eqP
    · have step := sqR_eq I (A := A) (by omega) (sqV_eq I n A.in1 (by show A.units + 1 + n < cLine; omega)) h rx ry
      obtain ⟨a, b, rfl, rfl⟩ : ∃ a b, x = .ref a ∧ y = .ref b := by
        rcases h with ⟨a, b, _, _, e1, e2, _⟩ | ⟨a, b, _, _, e1, e2, _⟩ | ⟨a, b, _, _, e1, e2, _⟩ <;> exact ⟨a, b, e1, e2⟩
      cases (show v = Value.ref a from rx)
      cases (show u = Value.ref b from ry)
      by_cases e : a = b
      · subst e
        exact (EqAt.same _).eqP
      · exact eqP_refs e step
end
section
variable {X : Cx}
/-- ==, != of equal lists and tuples -/
def rEqQ (K : PySem.W.Frag) : R2 := fun x y H Q => ∃ n, n ≤ 60 ∧ SqR K H (SqV K H n) x y ∧ Q (.bl true) H
def rNeQ (K : PySem.W.Frag) : R2 := fun x y H Q => ∃ n a b xs ys, n ≤ 60 ∧ x = .ref a ∧ y = .ref b ∧ ((SqL K H a xs ∧ SqL K H b ys) ∨ (SqT K H a xs ∧ SqT K H b ys)) ∧ Paired (SqV K H n) xs ys ∧ Q (.bl false) H
theorem op_eqQ (hu : X.A.units + 64 < cLine) : OpR X (compareOp .Eq) (rEqQ X.K) := by
  intro pins s σ H x y v u Q I rx ry h
  obtain ⟨n, hn, h, q⟩ := h
  exact sqR_eq I (A := X.A) (by omega) (sqV_eq I n X.A.in1 (by show X.A.units + 1 + n < cLine; omega)) h rx ry _ _ ⟨.bl true, H, I, rfl, q⟩
theorem op_neQ (hu : X.A.units + 64 < cLine) : OpR X (compareOp .NotEq) (rNeQ X.K) := by
  intro pins s σ H x y v u Q I rx ry h
  obtain ⟨n, a, b, xs, ys, hn, rfl, rfl, h, hp, q⟩ := h
  have ih := sqV_eq I n X.A.in1 (by show X.A.units + 1 + n < cLine; omega)
  cases (show v = Value.ref a from rx)
  cases (show u = Value.ref b from ry)
  have fin : (EP X pins σ Q) (.bool false) s := ⟨.bl false, H, I, rfl, q⟩
  rcases h with ⟨ha, hb⟩ | ⟨ha, hb⟩
  · obtain ⟨us, r1, p1, _⟩ := I.list ha
    obtain ⟨ws, r2, p2, _⟩ := I.list hb
    have sz : us.toArray.size = ws.toArray.size := by
      rw [List.size_toArray, List.size_toArray, ← r1.length, ← r2.length]
      exact Paired.length hp
    exact rc_lst_ne p1.isList p2.isList sz (by omega) (fun j h1 h2 => by simpa using items_run ih hp r1 r2 j (by simpa using h1) (by simpa using h2)) _ _ fin
  · obtain ⟨us, r1, p1, _⟩ := I.tuple ha
    obtain ⟨ws, r2, p2, _⟩ := I.tuple hb
    have sz : us.toArray.size = ws.toArray.size := by
      rw [List.size_toArray, List.size_toArray, ← r1.length, ← r2.length]
      exact Paired.length hp
    exact rc_tup_ne p1 p2 sz (by omega) (fun j h1 h2 => by simpa using items_run ih hp r1 r2 j (by simpa using h1) (by simpa using h2)) _ _ fin
/-- ==, != of any of these: plain values, data without dicts, equal data -/
def rEqX (K : PySem.W.Frag) : R2 := fun x y H Q => rEq x y H Q ∨ rEqD K x y H Q ∨ rEqQ K x y H Q
def rNeX (K : PySem.W.Frag) : R2 := fun x y H Q => rNe x y H Q ∨ rNeD K x y H Q ∨ rNeQ K x y H Q
theorem op_eqX (hu : X.A.units + 64 < cLine) : OpR X (compareOp .Eq) (rEqX X.K) := by
  intro pins s σ H x y v u Q I rx ry h
  rcases h with h | h | h
  · exact op_eq pins s σ H x y v u Q I rx ry h
  · exact op_eqD hu pins s σ H x y v u Q I rx ry h
  · exact op_eqQ hu pins s σ H x y v u Q I rx ry h
theorem op_neX (hu : X.A.units + 64 < cLine) : OpR X (compareOp .NotEq) (rNeX X.K) := by
  intro pins s σ H x y v u Q I rx ry h
  rcases h with h | h | h
  · exact op_ne pins s σ H x y v u Q I rx ry h
  · exact op_neD hu pins s σ H x y v u Q I rx ry h
  · exact op_neQ hu pins s σ H x y v u Q I rx ry h
end
section
variable {K : PySem.W.Frag} {H : Hp} {Q : VK} {a b : Str} {i j : Int}
theorem txt_dec : decide (V.str a = V.str b) = decide (a = b) := by
  by_cases h : a = b
  · subst h; simp
  · rw [decide_eq_false h, decide_eq_false fun z => h (V.str.inj z)]
theorem r_eqXS (q : Q (.bl (decide (a = b))) H) : rEqX K (.str a) (.str b) H Q := .inl ⟨rfl, by rw [txt_dec]; exact q⟩
theorem r_neXS (q : Q (.bl (!decide (a = b))) H) : rNeX K (.str a) (.str b) H Q := .inl ⟨rfl, by rw [txt_dec]; exact q⟩
theorem r_eqXI (q : Q (.bl (decide (i = j))) H) : rEqX K (.int i) (.int j) H Q := .inl (r_eqI q)
theorem r_neXI (q : Q (.bl (!decide (i = j))) H) : rNeX K (.int i) (.int j) H Q := .inl (r_neI q)
end
end CP

set_option Elab.async false
set_option linter.all false
set_option maxRecDepth 100000
set_option maxHeartbeats 4000000
set_option autoImplicit false
/-! texts in order; lists of texts as values -/
namespace CP
open L2 PySem PyProof.Rows
def sle (a b : Str) : Prop := ¬ (b.cps.toList < a.cps.toList)
instance (a b : Str) : Decidable (sle a b) := inferInstanceAs (Decidable (¬ _))
theorem sle_refl (a : Str) : sle a a := List.lt_irrefl _
theorem sle_total (a b : Str) : sle a b ∨ sle b a := by
  by_cases h : b.cps.toList < a.cps.toList
  · exact .inr (List.lt_asymm h)
  · exact .inl h
theorem sle_trans {a b c : Str} (h1 : sle a b) (h2 : sle b c) : sle a c := by
  unfold sle at *
  rw [List.not_lt] at *
  exact List.le_trans h1 h2
theorem sle_anti {a b : Str} (h1 : sle a b) (h2 : sle b a) : a = b := by
  unfold sle at *
  rw [List.not_lt] at *
  have e := List.le_antisymm h1 h2
  cases a; cases b
  simp only at e
  rw [Array.toList_inj.mp e]
theorem rising_of : ∀ {l : List Str} {p : Str}, risingS p l = true → (p :: l).Pairwise sle
  | [], p, _ => List.pairwise_singleton _ _
  | x :: l, p, h => by
    unfold risingS at h
    rw [Bool.and_eq_true] at h
    have ih := rising_of h.2
    have hp : sle p x := by
      have := h.1
      rw [Bool.not_eq_true', ltCps_eq, decide_eq_false_iff_not] at this
      exact this
    refine List.pairwise_cons.mpr ⟨fun y hy => ?_, ih⟩
    rcases List.mem_cons.mp hy with e | e
    · rw [e]; exact hp
    · exact sle_trans hp (List.rel_of_pairwise_cons ih e)
theorem sorted_pw {l : List Str} (h : sortedS l = true) : l.Pairwise sle := by
  cases l with
  | nil => exact List.Pairwise.nil
  | cons x l => exact rising_of h
def insT (x : Str) : List Str → List Str
  | [] => [x]
  | y :: l => if sle x y then x :: y :: l else y :: insT x l
theorem insT_perm (x : Str) : ∀ l, (insT x l).Perm (x :: l)
  | [] => .refl _
  | y :: l => by
    unfold insT
    split
    · exact .refl _
    · exact ((insT_perm x l).cons y).trans (.swap ..)
theorem insT_pw (x : Str) : ∀ {l : List Str}, l.Pairwise sle → (insT x l).Pairwise sle
  | [], _ => List.pairwise_singleton _ _
  | y :: l, h => by
    have hh := List.pairwise_cons.mp h
    unfold insT
    split
    · rename_i e
      refine List.pairwise_cons.mpr ⟨fun z hz => ?_, h⟩
      rcases List.mem_cons.mp hz with r | r
      · rw [r]; exact e
      · exact sle_trans e (hh.1 z r)
    · rename_i e
      refine List.pairwise_cons.mpr ⟨fun z hz => ?_, insT_pw x hh.2⟩
      rcases List.mem_cons.mp ((insT_perm x l).mem_iff.mp hz) with r | r
      · rw [r]; exact (sle_total x y).resolve_left e
      · exact hh.1 z r
/-- in order: by insertion, so that the kernel can go through it -/
def srt (l : List Str) : List Str := l.foldr insT []
theorem srt_both (l : List Str) : (srt l).Perm l ∧ (srt l).Pairwise sle := by
  induction l with
  | nil => exact ⟨.refl _, .nil⟩
  | cons x l ih => exact ⟨(insT_perm x _).trans (ih.1.cons x), insT_pw x ih.2⟩
theorem srt_perm (l : List Str) : (srt l).Perm l := (srt_both l).1
theorem srt_pw (l : List Str) : (srt l).Pairwise sle := (srt_both l).2
theorem srt_unique {l m : List Str} (hp : l.Perm m) (h1 : l.Pairwise sle) (h2 : m.Pairwise sle) : l = m :=
  List.Perm.eq_of_pairwise (le := sle) (fun a b _ _ => sle_anti) h1 h2 hp
theorem srt_of {l ys : List Str} (hp : ys.Perm l) (h : sortedS ys = true) : ys = srt l := srt_unique (hp.trans (srt_perm l).symm) (sorted_pw h) (srt_pw l)
theorem srt_congr {l m : List Str} (h : l.Perm m) : srt l = srt m := srt_unique ((srt_perm l).trans (h.trans (srt_perm m).symm)) (srt_pw l) (srt_pw m)
theorem srt_len (l : List Str) : (srt l).length = l.length := (srt_perm l).length_eq
theorem mem_srt {l : List Str} {x : Str} : x ∈ srt l ↔ x ∈ l := (srt_perm l).mem_iff
theorem srt_id {l : List Str} (h : l.Pairwise sle) : srt l = l := srt_unique (srt_perm l) (srt_pw l) h
theorem srt_srt (l : List Str) : srt (srt l) = srt l := srt_id (srt_pw l)
/-- each once -/
def nub : List Str → List Str
  | [] => []
  | x :: l => if x ∈ l then nub l else x :: nub l
theorem mem_nub {l : List Str} {x : Str} : x ∈ nub l ↔ x ∈ l := by
  induction l with
  | nil => exact Iff.rfl
  | cons a l ih =>
    unfold nub
    split
    · rename_i h
      rw [ih, List.mem_cons]
      exact ⟨.inr, fun z => z.elim (fun e => e ▸ h) id⟩
    · rw [List.mem_cons, List.mem_cons, ih]
theorem nub_nodup (l : List Str) : (nub l).Nodup := by
  induction l with
  | nil => exact List.Pairwise.nil
  | cons a l ih =>
    unfold nub
    split
    · exact ih
    · rename_i h
      exact List.nodup_cons.mpr ⟨fun z => h (mem_nub.mp z), ih⟩
/-- sorted(set(l)) -/
def sset (l : List Str) : List Str := srt (nub l)
theorem mem_sset {l : List Str} {x : Str} : x ∈ sset l ↔ x ∈ l := mem_srt.trans mem_nub
theorem sset_nodup (l : List Str) : (sset l).Nodup := (srt_perm _).nodup_iff.mpr (nub_nodup l)
theorem sset_pw (l : List Str) : (sset l).Pairwise sle := srt_pw _
theorem sset_of {l ys : List Str} (h : sortedS ys = true) (hd : ys.Nodup) (hm : ∀ x, x ∈ ys ↔ x ∈ l) : ys = sset l :=
  srt_of ((List.perm_ext_iff_of_nodup hd (nub_nodup l)).mpr fun x => (hm x).trans mem_nub.symm) h
theorem sset_eq {l m : List Str} (hd : m.Nodup) (hp : m.Pairwise sle) (hm : ∀ x, x ∈ m ↔ x ∈ l) : m = sset l :=
  srt_unique (((List.perm_ext_iff_of_nodup hd (nub_nodup l)).mpr fun x => (hm x).trans mem_nub.symm).trans (srt_perm _).symm) hp (srt_pw _)
theorem sset_congr {l m : List Str} (h : ∀ x, x ∈ l ↔ x ∈ m) : sset l = sset m := sset_eq (sset_nodup l) (sset_pw l) fun x => mem_sset.trans (h x)
theorem sset_len (l : List Str) : (sset l).length ≤ l.length := by
  unfold sset
  rw [srt_len]
  induction l with
  | nil => exact Nat.le_refl 0
  | cons a l ih =>
    unfold nub
    split
    · rw [List.length_cons]; omega
    · rw [List.length_cons, List.length_cons]; omega
/-! lists of texts as values -/
def strL (l : List Str) : List V := l.map V.str
theorem strL_get {l : List Str} {i : Nat} {x : V} (h : (strL l)[i]? = some x) : ∃ n, l[i]? = some n ∧ x = .str n := by
  unfold strL at h
  rw [List.getElem?_map] at h
  cases e : l[i]? with
  | none => rw [e] at h; cases h
  | some n => rw [e] at h; exact ⟨n, rfl, (Option.some.inj h).symm⟩
theorem strL_len (l : List Str) : (strL l).length = l.length := List.length_map _
theorem strL_app (l m : List Str) : strL (l ++ m) = strL l ++ strL m := List.map_append
theorem strL_flat (l : List Str) : (strL l).all flatV = true := by
  unfold strL
  rw [List.all_map]
  exact List.all_eq_true.mpr fun _ _ => rfl
theorem inV_str (x : Str) (l : List Str) : inV (.str x) (strL l) = decide (x ∈ l) := by
  unfold inV strL
  induction l with
  | nil => rfl
  | cons a l ih =>
    rw [List.map_cons, List.any_cons, ih]
    show ((a == x) || _) = _
    by_cases e : a = x
    · subst e; simp
    · have e1 : (a == x) = false := by rw [beq_eq_false_iff_ne]; exact e
      rw [e1, Bool.false_or]
      simp [Ne.symm e]
/-! steps -/
abbrev oLenS : List V → Hp → VK → Prop := fun xs H Q => ∃ z, xs = [.str z] ∧ z.length ≤ sizeLine ∧ Q (.int z.length) H
section
variable {K : PySem.W.Frag} {σ : L2.St} {H : Hp} {Q : VK} {z : Str} {a b : Addr} {xs ys : List Str}
theorem r_lenS (h : z.length ≤ sizeLine) (q : Q (.int z.length) H) : oLenS [.str z] H Q := ⟨z, rfl, h, q⟩
theorem r_inS {c : Nat} (q : Q (.bl (decide (c ∈ z.cps.toList))) H) : rInS (.str ⟨#[c]⟩) (.str z) H Q := ⟨c, z, rfl, rfl, q⟩
theorem r_notInS {c : Nat} (q : Q (.bl (!decide (c ∈ z.cps.toList))) H) : rNotInS (.str ⟨#[c]⟩) (.str z) H Q := ⟨c, z, rfl, rfl, q⟩
theorem r_iStr {te : TE} {R : It → Hp → Prop} (q : te σ H fun v H1 => ∃ x, v = .str x ∧ R (Its x) H1) : iStr te σ H R := q
theorem r_strx {P : Str → Prop} (q : P z) : ∃ x, V.str z = .str x ∧ P x := ⟨z, rfl, q⟩
theorem r_chain {r r' : R2} {ta tb tc : TE} (q : ta σ H fun x H1 => tb σ H1 fun y H2 => r x y H2 fun v H3 => ∃ c, v = .bl c ∧ if c = true then tc σ H3 fun z H4 => r' y z H4 Q else Q (.bl false) H3) : tChain r r' ta tb tc σ H Q := q
theorem r_lc2 {P : Bool → Prop} {x : Bool} (q : P x) : ∃ c, V.bl x = .bl c ∧ P c := ⟨x, rfl, q⟩
/-! comparing -/
theorem dpA_strs : ∀ xs : List Str, DpAll K H (strL xs) (xs.map PyData.str)
  | [] => .nil
  | x :: xs => .cons (.str x) (dpA_strs xs)
theorem lay_strs (hs : ∀ x ∈ xs, (PyData.str x).canLay0 = true) : PyData.canLayAll0 (xs.map PyData.str) = true ∧ PyData.depthAll (xs.map PyData.str) = 0 := by
  induction xs with
  | nil => exact ⟨by simp [PyData.canLayAll0], by simp [PyData.depthAll]⟩
  | cons x xs ih =>
    obtain ⟨h1, h2⟩ := ih fun y hy => hs y (List.mem_cons_of_mem _ hy)
    refine ⟨by simp [PyData.canLayAll0, h1, hs x (List.mem_cons_self ..)], ?_⟩
    simp only [List.map_cons, PyData.depthAll, PyData.depth]
    omega
theorem eqv_strs : ∀ xs ys : List Str, PyData.eqvAll (xs.map PyData.str) (ys.map PyData.str) = decide (xs = ys)
  | [], [] => by simp [PyData.eqvAll]
  | [], _ :: _ => by simp [PyData.eqvAll]
  | _ :: _, [] => by simp [PyData.eqvAll]
  | a :: r, b :: t => by
    simp only [List.map_cons, PyData.eqvAll, PyData.eqv, eqv_strs r t]
    by_cases h : a = b <;> by_cases h' : r = t <;> simp [h, h']
theorem strs_eqX (h : SqL K H a (strL xs)) (h2 : SqL K H b (strL ys)) (hx : ∀ x ∈ xs, (PyData.str x).canLay0 = true) (hy : ∀ y ∈ ys, (PyData.str y).canLay0 = true) (q : Q (.bl (decide (xs = ys))) H) : rEqX K (.ref a) (.ref b) H Q := by
  obtain ⟨x1, x2⟩ := lay_strs hx
  obtain ⟨y1, y2⟩ := lay_strs hy
  refine .inr (.inl ⟨_, _, .lst h (dpA_strs xs), .lst h2 (dpA_strs ys), ?_, ?_, ?_⟩)
  · exact Bool.and_eq_true_iff.mpr ⟨by simp only [PyData.canLay0]; exact x1, decide_eq_true (by simp only [PyData.depth]; omega)⟩
  · exact Bool.and_eq_true_iff.mpr ⟨by simp only [PyData.canLay0]; exact y1, decide_eq_true (by simp only [PyData.depth]; omega)⟩
  · show Q (.bl (PyData.eqvAll (xs.map PyData.str) (ys.map PyData.str))) H
    rw [eqv_strs]
    exact q
theorem strs_neX (h : SqL K H a (strL xs)) (h2 : SqL K H b (strL ys)) (hx : ∀ x ∈ xs, (PyData.str x).canLay0 = true) (hy : ∀ y ∈ ys, (PyData.str y).canLay0 = true) (q : Q (.bl (!decide (xs = ys))) H) : rNeX K (.ref a) (.ref b) H Q := by
  obtain ⟨x1, x2⟩ := lay_strs hx
  obtain ⟨y1, y2⟩ := lay_strs hy
  refine .inr (.inl ⟨_, _, .lst h (dpA_strs xs), .lst h2 (dpA_strs ys), ?_, ?_, ?_⟩)
  · exact Bool.and_eq_true_iff.mpr ⟨by simp only [PyData.canLay0]; exact x1, decide_eq_true (by simp only [PyData.depth]; omega)⟩
  · exact Bool.and_eq_true_iff.mpr ⟨by simp only [PyData.canLay0]; exact y1, decide_eq_true (by simp only [PyData.depth]; omega)⟩
  · show Q (.bl (!PyData.eqvAll (xs.map PyData.str) (ys.map PyData.str))) H
    rw [eqv_strs]
    exact q
/-- two lists of any items, one of them empty: xs == [], xs != [] -/
theorem nil_eqX {vs : List V} (h : SqL K H a vs) (h2 : SqL K H b []) (hd : ∃ ds, DpAll K H vs ds ∧ PyData.canLayAll0 ds = true ∧ PyData.depthAll ds ≤ 60) (q : Q (.bl vs.isEmpty) H) : rEqX K (.ref a) (.ref b) H Q := by
  obtain ⟨ds, d1, d2, d3⟩ := hd
  refine .inr (.inl ⟨.list ds, .list [], .lst h d1, .lst h2 .nil, ?_, ?_, ?_⟩)
  · exact Bool.and_eq_true_iff.mpr ⟨by simp only [PyData.canLay0]; exact d2, decide_eq_true (by simp only [PyData.depth]; omega)⟩
  · decide +kernel
  · cases d1 with
    | nil => simpa [PyData.eqv, PyData.eqvAll] using q
    | cons _ _ => simpa [PyData.eqv, PyData.eqvAll] using q
theorem nil_neX {vs : List V} (h : SqL K H a vs) (h2 : SqL K H b []) (hd : ∃ ds, DpAll K H vs ds ∧ PyData.canLayAll0 ds = true ∧ PyData.depthAll ds ≤ 60) (q : Q (.bl (!vs.isEmpty)) H) : rNeX K (.ref a) (.ref b) H Q := by
  obtain ⟨ds, d1, d2, d3⟩ := hd
  refine .inr (.inl ⟨.list ds, .list [], .lst h d1, .lst h2 .nil, ?_, ?_, ?_⟩)
  · exact Bool.and_eq_true_iff.mpr ⟨by simp only [PyData.canLay0]; exact d2, decide_eq_true (by simp only [PyData.depth]; omega)⟩
  · decide +kernel
  · cases d1 with
    | nil => simpa [PyData.eqv, PyData.eqvAll] using q
    | cons _ _ => simpa [PyData.eqv, PyData.eqvAll] using q
theorem strs_dp (hx : ∀ x ∈ xs, (PyData.str x).canLay0 = true) : ∃ ds, DpAll K H (strL xs) ds ∧ PyData.canLayAll0 ds = true ∧ PyData.depthAll ds ≤ 60 :=
  ⟨_, dpA_strs xs, (lay_strs hx).1, by rw [(lay_strs hx).2]; decide⟩
end
end CP

set_option Elab.async false
set_option linter.all false
set_option maxRecDepth 100000
set_option maxHeartbeats 4000000
set_option autoImplicit false
/-! == and != of instances of a class with its own __eq__ (and no own __ne__) -/
namespace CP
open PySem L2 PySem.W PyProof.Rows
section
variable {prog : Program} {w : World} {A : Around} {E : Value → Shared → Prop} {s : Shared} {K : Frag} {x C L f : Addr} {h₀ : Heap} {m : Str → Option Value} {ox : Obj} {od : Option Obj} {b tb : Value}
theorem ne_bound (self : Value) : bindSpecial (.builtin "object.__ne__") self = pure (.builtin "object.__ne__", [self]) :=
  (Slot.of (T := "object") (name := "__ne__") (owner := "object") (n := "__ne__") (by rw [typeLookup_type, builtinLookup_eq_fast]; kernel_rfl) (by decide +kernel) (by decide +kernel) (by decide +kernel)
    (.inl (by decide +kernel)) (by rw [isSubtype_type]; kernel_rfl)).bind self
theorem bound_ne {M : Model} {args : List Value} {Q : Option Value → Shared → Prop} (X : K.In s.heap) (I : InstAt s.heap x ox C od) (hs : findIn K (.ref C) "__ne__" = some (some (.builtin "object.__ne__")))
    (h : wpAny M A (call (.builtin "object.__ne__") (.ref x :: args)) (fun v => Q (some v)) E s) : wpAny M A (callSpecialIfBound? (.ref x) "__ne__" args) Q E s := by
  simp only [callSpecialIfBound?, bindSpecialIfBound?]
  refine wpAny_holding (wpAny_bind (wpAny_bind (wpAny_bind (I.type.here ((looks_findIn X hs).here ?_)))))
  refine wpAny_bind (wpAny_askSetting (wpAny_ite ?_))
  have fin : wpAny M A (call (.builtin "object.__ne__") ([.ref x] ++ args) >>= fun v => pure (some v)) Q E s := wpAny_bind (wpAny_mono h (fun v s' z => wpAny_pure z) fun _ _ z => z)
  rw [ne_bound]
  split
  · exact wpAny_bind (wpAny_pure (wpAny_pure (by exact fin)))
  · exact wpAny_tryCatch (wpAny_bind (wpAny_pure (wpAny_pure (by exact fin))))
/-- what the own __eq__ answers, turned about -/
theorem object_ne {Q : Fin → Shared → Prop} (X : K.In s.heap) (I : InstAt s.heap x ox C od) (hu : A.units < cLine) (hs : findIn K (.ref C) "__eq__" = some (some (.ref f))) (hf : isFn K (.ref f) = true)
    (h : wpAny (model prog w) A (call (.ref f) [.ref x, b]) (fun v s' => ∃ c, v = .bool c ∧ Q (.done (.ret (.bool (!c)))) s') E s) : wpAny (model prog w) A (Builtin.«object.__ne__» ⟨[.ref x, b], []⟩) Q E s := by
  unfold Builtin.«object.__ne__»
  refine wpAny_bind (m := slotArgs "__ne__" 1 ⟨[.ref x, b], []⟩) (wpAny_pure ?_)
  refine wpAny_bind (wpAny_cRoomFor hu ?_)
  refine wpAny_bind (m := callSpecialIfBound? (.ref x) (Str.ofString "__eq__") [b]) (ifBound_K X I hs hf (wpAny_mono h (fun v s' z => ?_) fun _ _ z => z))
  obtain ⟨c, rfl, q⟩ := z
  exact wpAny_bind (m := truthy (.bool c)) (wpAny_truthy_bool (wpAny_pure q))
theorem cmp_ne {Q : Value → Shared → Prop} (hu : A.units + 1 < cLine) (F : Fr h₀ L s.heap m) (X₀ : K.In h₀) (I : InstAt s.heap x ox C od) (hb : Looks (model prog w) s.heap (typeOf b) tb) (hn : notFirst K C tb = true) (ho : subIn K (.ref C) (.type "object") = some true)
    (hne : findIn K (.ref C) "__ne__" = some (some (.builtin "object.__ne__"))) (hs : findIn K (.ref C) "__eq__" = some (some (.ref f))) (hf : isFn K (.ref f) = true)
    (h : wpAny (model prog w) A.in1 (call (.ref f) [.ref x, b]) (fun v s' => ∃ c, v = .bool c ∧ Q (.bool (!c)) s') E s) : wpAny (model prog w) A (richCompare .NotEq (.ref x) b) Q E s := by
  have X := X₀.keeps F.keep
  have one : wpAny (model prog w) A (tryCompare (.ref x) "__ne__" b) (fun r s' => ∃ v, r = some v ∧ Q v s') E s := by
    unfold tryCompare
    refine wpAny_bind (bound_ne X I hne (wpAny_call (codeAny_call_builtin (by decide +kernel) PySem.F.cmpEntry_ne
      (@check_slot (model prog w) _ _ _ "object.__ne__" "object" "__ne__" (.ref x) [b] [] _ PySem.F.cmpKind_ne PySem.F.cmpSplit_ne (I.type.andThen (looks_subIn X ho)) (PySem.F.cmpArgs_ne _ _) ?_))))
    refine object_ne (A := A.in1) X I hu hs hf (wpAny_mono h (fun v s' z => ?_) fun _ _ z => z)
    obtain ⟨c, rfl, q⟩ := z
    exact ⟨c, rfl, wpAny_pure ⟨_, rfl, q⟩⟩
  unfold richCompare
  simp only [oneThing_ref]
  refine wpAny_holding (wpAny_bind (wpAny_cRoomFor (Nat.lt_of_succ_lt hu) ?_))
  refine wpAny_bind (I.type.here (wpAny_bind (hb.here ?_)))
  have fin : wpAny (model prog w) A (tryCompare (.ref x) "__ne__" b) (fun r s' => wpAny (model prog w) A (match r with | some v => pure v | none => (do
      if let some v ← tryCompare b "__ne__" (.ref x) then return v
      pure (.bool (!(← isSame (.ref x) b))))) Q E s') E s := wpAny_mono one (fun r s' z => by
    obtain ⟨v, rfl, q⟩ := z
    exact wpAny_pure q) fun _ _ z => z
  split
  · rename_i q
    have e : subIn K tb (.ref C) = some false := by
      rcases Bool.or_eq_true_iff.mp hn with e | e
      · rw [beq_iff_eq.mp e] at q; simp at q
      · exact beq_iff_eq.mp e
    refine wpAny_bind ((looks_subIn X e).here ?_)
    simp only [Bool.false_eq_true, if_false]
    refine wpAny_bind (wpAny_mono one (fun r s' z => ?_) fun _ _ z => z)
    obtain ⟨v, rfl, hq⟩ := z
    exact wpAny_pure hq
  · refine wpAny_bind (wpAny_pure ?_)
    simp only [Bool.false_eq_true, if_false]
    refine wpAny_bind (wpAny_mono one (fun r s' z => ?_) fun _ _ z => z)
    obtain ⟨v, rfl, hq⟩ := z
    exact wpAny_pure hq
end
/-- what isinstance asks of a class -/
structure ClsI (K : Frag) (C : Addr) : Prop where
  cl : Cls K C
  at_ : findIn K (.ref C) "__class__" = some (some (.builtin "object.__class__"))
  sp : specialIn K (.builtin "object.__class__") "__get__" = some (some (.builtin "getset_descriptor.__get__"))
  tk : takesIn K (.builtin "object.__class__") = some true
  mro : mroIn K C (.type "object") = some true
/-- what has to be known of such a class -/
structure OwnEq (K : Frag) (C f : Addr) : Prop where
  eq : findIn K (.ref C) "__eq__" = some (some (.ref f))
  fn : isFn K (.ref f) = true
  ne : findIn K (.ref C) "__ne__" = some (some (.builtin "object.__ne__"))
  ob : subIn K (.ref C) (.type "object") = some true
section
variable {X : Cx} {CX : CXT} {k : Nat} {C f : Addr} {fd : FuncData} {ps : List Str} {sp : Sp} {E : XK}
def rEqO (C : Addr) (sp : Sp) (E : XK) : R2 := fun x y H Q => ∃ a b dx dy fs gs, x = .ref a ∧ y = .ref b ∧ H a = some (.ins C dx fs) ∧ H b = some (.ins C dy gs) ∧ sp [x, y] H (fun v H' => ∃ c, v = .bl c ∧ Q (.bl c) H') E
def rNeO (C : Addr) (sp : Sp) (E : XK) : R2 := fun x y H Q => ∃ a b dx dy fs gs, x = .ref a ∧ y = .ref b ∧ H a = some (.ins C dx fs) ∧ H b = some (.ins C dy gs) ∧ sp [x, y] H (fun v H' => ∃ c, v = .bl c ∧ Q (.bl (!c)) H') E
theorem op_neO (O : OwnEq X.K C f) (F : FnOk X.prog X.w X.K X.mg X.base CX k f fd ps sp) (hr : Room (k + 1) X.A) (hb : Binds X.K fd ps []) (hx : Passes CX X E) : OpR X (compareOp .NotEq) (rNeO C sp E) := by
  intro pins s σ H x y v u Q I rx ry h
  obtain ⟨a, b, dx, dy, fs, gs, rfl, rfl, ha, hb', pr⟩ := h
  cases rx
  cases ry
  obtain ⟨mA, J, _⟩ := ins_get I.hok ha
  obtain ⟨mB, J', _⟩ := ins_get I.hok hb'
  obtain ⟨o1, J, _⟩ := J.look
  obtain ⟨o2, J', _⟩ := J'.look
  obtain ⟨m, hF⟩ := I.fr
  have room : Room k X.A.in1 := hr.in1
  refine cmp_ne (tb := .ref C) (by have := hr.units; omega) hF I.ok.mod.kin J J'.type (by simp [notFirst]) O.ob O.ne O.eq O.fn ?_
  have e0 : Env0 X.prog X.w X.K X.mg X.base X.A.in1 X.stack s H := I.env0.in1
  have hl := F.len _ _ _ _ pr
  have r2 : Vals [V.ref a, V.ref b] [Value.ref a, Value.ref b] := .cons rfl (.cons rfl .nil)
  refine wpAny_call (codeAny_mono (F.run X.A.in1 X.stack s H ⟨[.ref a, .ref b], []⟩ [.ref a, .ref b] [.ref a, .ref b] _ E room e0 (by
    have z := hb s [.ref a, .ref b] I.kIn (by simpa using hl)
    simpa using z) r2 pr) fun r s' z => ?_)
  match r, z with
  | .error e, z => exact hx pins σ H s e s' I z
  | .ok (.ret t), z =>
    obtain ⟨zv, H', I', rz, c, ec, q⟩ := I.after z
    subst ec
    cases rz
    exact ⟨c, rfl, .bl (!c), H', I', rfl, q⟩
theorem op_eqO (O : OwnEq X.K C f) (F : FnOk X.prog X.w X.K X.mg X.base CX k f fd ps sp) (hr : Room (k + 1) X.A) (hb : Binds X.K fd ps []) (hx : Passes CX X E) : OpR X (compareOp .Eq) (rEqO C sp E) := by
  intro pins s σ H x y v u Q I rx ry h
  obtain ⟨a, b, dx, dy, fs, gs, rfl, rfl, ha, hb', pr⟩ := h
  cases rx
  cases ry
  obtain ⟨mA, J, _⟩ := ins_get I.hok ha
  obtain ⟨mB, J', _⟩ := ins_get I.hok hb'
  obtain ⟨o1, J, _⟩ := J.look
  obtain ⟨o2, J', _⟩ := J'.look
  obtain ⟨m, hF⟩ := I.fr
  refine cmp_K (op := .Eq) (tb := .ref C) hr.units0 hF I.ok.mod.kin J J'.type (by simp [notFirst]) O.eq O.fn ?_
  have hl := F.len _ _ _ _ pr
  have r2 : Vals [V.ref a, V.ref b] [Value.ref a, Value.ref b] := .cons rfl (.cons rfl .nil)
  refine wpAny_call (codeAny_mono (F.run X.A X.stack s H ⟨[.ref a, .ref b], []⟩ [.ref a, .ref b] [.ref a, .ref b] _ E (hr.mono (by omega)) I.env0 (by
    have z := hb s [.ref a, .ref b] I.kIn (by simpa using hl)
    simpa using z) r2 pr) fun r s' z => ?_)
  match r, z with
  | .error e, z => exact hx pins σ H s e s' I z
  | .ok (.ret t), z =>
    obtain ⟨zv, H', I', rz, c, ec, q⟩ := I.after z
    subst ec
    cases rz
    exact ⟨.bl c, H', I', rfl, q⟩
end
end CP

set_option Elab.async false
set_option linter.all false
set_option maxRecDepth 100000
set_option maxHeartbeats 4000000
set_option autoImplicit false
/-! plain tables as values: letters, products, sides, rows -/
namespace CP
open L2 PySem PyProof.Rows
def smallT : Str := "abcdefghijklmnopqrstuvwxyz"
def letB (z : Str) : Bool := decide (1 ≤ z.length ∧ z.length ≤ 10) && z.cps.toList.all fun c => decide (c ∈ smallT.cps.toList)
theorem small_low : ∀ c ∈ smallT.cps.toList, c < 0x110000 := by decide +kernel
theorem let_lay {z : Str} (h : letB z = true) : (PyData.str z).canLay0 = true := by
  unfold letB at h
  rw [Bool.and_eq_true] at h
  simp only [PyData.canLay0]
  show z.cps.all (· < 0x110000) = true
  rw [← Array.all_toList, List.all_eq_true]
  intro c hc
  exact decide_eq_true (small_low c (of_decide_eq_true (List.all_eq_true.mp h.2 c hc)))
theorem let_len {z : Str} (h : letB z = true) : 1 ≤ z.length ∧ z.length ≤ 10 := by
  unfold letB at h
  rw [Bool.and_eq_true] at h
  exact of_decide_eq_true h.1
abbrev Sd := Str × List Str × List Str
/-- a product of letters -/
def Lets (l : List Str) : Prop := (∀ x ∈ l, letB x = true) ∧ l.length ≤ 30
theorem Lets.lay {l : List Str} (h : Lets l) : ∀ x ∈ l, (PyData.str x).canLay0 = true := fun x hx => let_lay (h.1 x hx)
theorem Lets.perm {l m : List Str} (h : Lets l) (p : m.Perm l) : Lets m := ⟨fun x hx => h.1 x (p.mem_iff.mp hx), by rw [p.length_eq]; exact h.2⟩
theorem lets_nil : Lets [] := ⟨by simp, by simp⟩
/-- sides that make a table -/
structure Rows (rows : List Sd) : Prop where
  ne : rows ≠ []
  few : rows.length ≤ 20
  name : ∀ r ∈ rows, letB r.1 = true
  size : ∀ r ∈ rows, Lets r.2.1
  step : ∀ r ∈ rows, Lets r.2.2
  dis : (rows.map (·.1)).Nodup
  out : ∀ r ∈ rows, ∀ x ∈ r.2.1 ++ r.2.2, x ∉ rows.map (·.1)
def SideAt (H : Hp) (v : V) (r : Sd) : Prop := ∃ t a b, v = .ref t ∧ H t = some (.tup [.str r.1, .ref a, .ref b]) ∧ H a = some (.lst (strL r.2.1)) ∧ H b = some (.lst (strL r.2.2))
theorem SideAt.mono {H H' : Hp} {v : V} {r : Sd} (h : SideAt H v r) (s : Same H H') : SideAt H' v r := by
  obtain ⟨t, a, b, e, h1, h2, h3⟩ := h
  exact ⟨t, a, b, e, s _ _ h1, s _ _ h2, s _ _ h3⟩
def RowsAt (H : Hp) (p : Addr) (rows : List Sd) : Prop := ∃ vs, H p = some (.lst vs) ∧ Paired (SideAt H) vs rows
theorem RowsAt.mono {H H' : Hp} {p : Addr} {rows : List Sd} (h : RowsAt H p rows) (s : Same H H') : RowsAt H' p rows := by
  obtain ⟨vs, e, pr⟩ := h
  exact ⟨vs, s _ _ e, pd_mono pr fun _ _ z => SideAt.mono z s⟩
theorem sides_mono {H H' : Hp} {vs : List V} {rows : List Sd} (h : Paired (SideAt H) vs rows) (s : Same H H') : Paired (SideAt H') vs rows := pd_mono h fun _ _ z => SideAt.mono z s
/-! as data -/
def sideD (r : Sd) : PyData := .tuple [.str r.1, .list (r.2.1.map .str), .list (r.2.2.map .str)]
theorem side_dp {K : PySem.W.Frag} {H : Hp} {v : V} {r : Sd} (h : SideAt H v r) : Dp K H v (sideD r) := by
  obtain ⟨t, a, b, rfl, h1, h2, h3⟩ := h
  exact .tup (.of h1) (.cons (.str _) (.cons (.lst (.of h2) (dpA_strs _)) (.cons (.lst (.of h3) (dpA_strs _)) .nil)))
theorem rows_dp {K : PySem.W.Frag} {H : Hp} {vs : List V} {rows : List Sd} (h : Paired (SideAt H) vs rows) : DpAll K H vs (rows.map sideD) := by
  induction h with
  | nil => exact .nil
  | cons h _ ih => exact .cons (side_dp h) ih
theorem side_lay {r : Sd} (h0 : (PyData.str r.1).canLay0 = true) (h1 : ∀ x ∈ r.2.1, (PyData.str x).canLay0 = true) (h2 : ∀ x ∈ r.2.2, (PyData.str x).canLay0 = true) : (sideD r).canLay0 = true ∧ (sideD r).depth = 2 := by
  obtain ⟨a1, a2⟩ := lay_strs h1
  obtain ⟨b1, b2⟩ := lay_strs h2
  have h0' := h0
  simp only [PyData.canLay0] at h0'
  refine ⟨by simp [sideD, PyData.canLay0, PyData.canLayAll0, a1, b1, h0'], ?_⟩
  simp only [sideD, PyData.depth, PyData.depthAll, a2, b2]
  rfl
theorem rows_lay {rows : List Sd} (h : ∀ r ∈ rows, (sideD r).canLay0 = true ∧ (sideD r).depth = 2) : PyData.canLayAll0 (rows.map sideD) = true ∧ PyData.depthAll (rows.map sideD) ≤ 2 := by
  induction rows with
  | nil => exact ⟨by simp [PyData.canLayAll0], by simp [PyData.depthAll]⟩
  | cons r rows ih =>
    obtain ⟨i1, i2⟩ := ih fun x hx => h x (List.mem_cons_of_mem _ hx)
    obtain ⟨a1, a2⟩ := h r (List.mem_cons_self ..)
    refine ⟨by simp [PyData.canLayAll0, a1, i1], ?_⟩
    simp only [List.map_cons, PyData.depthAll]
    omega
theorem Rows.lay {rows : List Sd} (h : Rows rows) : ∀ r ∈ rows, (sideD r).canLay0 = true ∧ (sideD r).depth = 2 := fun r hr => side_lay (let_lay (h.name r hr)) (h.size r hr).lay (h.step r hr).lay
theorem Rows.dp {K : PySem.W.Frag} {H : Hp} {vs : List V} {rows : List Sd} (h : Rows rows) (p : Paired (SideAt H) vs rows) : ∃ ds, DpAll K H vs ds ∧ PyData.canLayAll0 ds = true ∧ PyData.depthAll ds ≤ 60 :=
  ⟨_, rows_dp p, (rows_lay h.lay).1, Nat.le_trans (rows_lay h.lay).2 (by decide)⟩
section
variable {K : PySem.W.Frag} {H : Hp} {Q : VK} {a b : Addr} {xs ys : List Str} {vs : List V}
theorem tnil_eqX (h : SqT K H a vs) (h2 : SqT K H b []) (hd : ∃ ds, DpAll K H vs ds ∧ PyData.canLayAll0 ds = true ∧ PyData.depthAll ds ≤ 60) (q : Q (.bl vs.isEmpty) H) : rEqX K (.ref a) (.ref b) H Q := by
  obtain ⟨ds, d1, d2, d3⟩ := hd
  refine .inr (.inl ⟨.tuple ds, .tuple [], .tup h d1, .tup h2 .nil, ?_, ?_, ?_⟩)
  · exact Bool.and_eq_true_iff.mpr ⟨by simp only [PyData.canLay0]; exact d2, decide_eq_true (by simp only [PyData.depth]; omega)⟩
  · decide +kernel
  · cases d1 with
    | nil => simpa [PyData.eqv, PyData.eqvAll] using q
    | cons _ _ => simpa [PyData.eqv, PyData.eqvAll] using q
theorem nil_eqX0 (h : SqL K H a []) (h2 : SqL K H b []) (q : Q (.bl true) H) : rEqX K (.ref a) (.ref b) H Q := nil_eqX h h2 ⟨[], .nil, by decide +kernel, by decide +kernel⟩ q
theorem nil_neX0 (h : SqL K H a []) (h2 : SqL K H b []) (q : Q (.bl false) H) : rNeX K (.ref a) (.ref b) H Q := nil_neX h h2 ⟨[], .nil, by decide +kernel, by decide +kernel⟩ q
theorem nil_eqX1 {v : V} (h : SqL K H a (v :: vs)) (h2 : SqL K H b []) (hd : ∃ ds, DpAll K H (v :: vs) ds ∧ PyData.canLayAll0 ds = true ∧ PyData.depthAll ds ≤ 60) (q : Q (.bl false) H) : rEqX K (.ref a) (.ref b) H Q := nil_eqX h h2 hd q
theorem nil_neX1 {v : V} (h : SqL K H a (v :: vs)) (h2 : SqL K H b []) (hd : ∃ ds, DpAll K H (v :: vs) ds ∧ PyData.canLayAll0 ds = true ∧ PyData.depthAll ds ≤ 60) (q : Q (.bl true) H) : rNeX K (.ref a) (.ref b) H Q := nil_neX h h2 hd q
theorem r_inStr {x : Str} (h : SqL K H a (strL xs)) (q : Q (.bl (decide (x ∈ xs))) H) : rIn K false (.str x) (.ref a) H Q := r_in h rfl (strL_flat _) (by rw [inV_str]; exact q)
theorem r_niStr {x : Str} (h : SqL K H a (strL xs)) (q : Q (.bl (!decide (x ∈ xs))) H) : rIn K true (.str x) (.ref a) H Q := r_in h rfl (strL_flat _) (by rw [inV_str]; exact q)
theorem r_slA {lo hi : Option Int} (h : SqT K H a vs) (hw : ¬ (HT.sIx vs.length 0 lo = 0 ∧ HT.sIx vs.length vs.length hi = vs.length)) (q : ∀ l H', H l = none → Same H H' → H' l = some (.tup (cutV vs lo hi)) → Q (.ref l) H') : rSlA K (.ref a) lo hi H Q :=
  ⟨a, vs, rfl, h, fun z => absurd z hw, fun _ p hp => q p _ hp (same_new hp) upd_same⟩
theorem eqX_d {d e : PyData} {x y : V} (h1 : Dp K H x d) (h2 : Dp K H y e) (s1 : d.canLay0 = true) (s2 : e.canLay0 = true) (d1 : d.depth ≤ 60) (d2 : e.depth ≤ 60) (q : Q (.bl (PyData.eqv d e)) H) : rEqX K x y H Q :=
  .inr (.inl ⟨d, e, h1, h2, Bool.and_eq_true_iff.mpr ⟨s1, decide_eq_true (by omega)⟩, Bool.and_eq_true_iff.mpr ⟨s2, decide_eq_true (by omega)⟩, q⟩)
theorem neX_d {d e : PyData} {x y : V} (h1 : Dp K H x d) (h2 : Dp K H y e) (s1 : d.canLay0 = true) (s2 : e.canLay0 = true) (d1 : d.depth ≤ 60) (d2 : e.depth ≤ 60) (q : Q (.bl (!PyData.eqv d e)) H) : rNeX K x y H Q :=
  .inr (.inl ⟨d, e, h1, h2, Bool.and_eq_true_iff.mpr ⟨s1, decide_eq_true (by omega)⟩, Bool.and_eq_true_iff.mpr ⟨s2, decide_eq_true (by omega)⟩, q⟩)
end
/-- what an item of the rows is -/
theorem side_at {H H' : Hp} {vs : List V} {rows : List Sd} (pr : Paired (SideAt H) vs rows) (s : Same H H') {i : Nat} {x : V} (hx : vs[i]? = some x) :
    ∃ r t a b, rows[i]? = some r ∧ r ∈ rows ∧ x = .ref t ∧ H' t = some (.tup [.str r.1, .ref a, .ref b]) ∧ H' a = some (.lst (strL r.2.1)) ∧ H' b = some (.lst (strL r.2.2)) := by
  obtain ⟨r, hr, t, a, b, e, h1, h2, h3⟩ := pd_get pr hx
  exact ⟨r, t, a, b, hr, List.mem_of_getElem? hr, e, s _ _ h1, s _ _ h2, s _ _ h3⟩
/-! tables as objects -/
def srow (r : Sd) : Sd := (r.1, srt r.2.1, srt r.2.2)
def TabAt (C : Addr) (H : Hp) (o : Addr) (rows : List Sd) : Prop := ∃ dx p, H o = some (.ins C dx [("row", .ref p)]) ∧ RowsAt H p rows
theorem TabAt.mono {C : Addr} {H H' : Hp} {o : Addr} {rows : List Sd} (h : TabAt C H o rows) (s : Same H H') : TabAt C H' o rows := by
  obtain ⟨dx, p, h1, h2⟩ := h
  exact ⟨dx, p, s _ _ h1, h2.mono s⟩
theorem Rows.srow {rows : List Sd} (h : Rows rows) : Rows (rows.map srow) := by
  have e : (rows.map CP.srow).map (·.1) = rows.map (·.1) := by rw [List.map_map]; rfl
  refine ⟨fun z => h.ne (List.map_eq_nil_iff.mp z), by rw [List.length_map]; exact h.few, fun r hr => ?_, fun r hr => ?_, fun r hr => ?_, by rw [e]; exact h.dis, fun r hr x hx => ?_⟩
  · obtain ⟨u, hu, rfl⟩ := List.mem_map.mp hr; exact h.name u hu
  · obtain ⟨u, hu, rfl⟩ := List.mem_map.mp hr; exact (h.size u hu).perm (srt_perm _)
  · obtain ⟨u, hu, rfl⟩ := List.mem_map.mp hr; exact (h.step u hu).perm (srt_perm _)
  · obtain ⟨u, hu, rfl⟩ := List.mem_map.mp hr
    rw [e]
    refine h.out u hu x ?_
    rcases List.mem_append.mp hx with z | z
    · exact List.mem_append_left _ (mem_srt.mp z)
    · exact List.mem_append_right _ (mem_srt.mp z)
section
variable {K : PySem.W.Frag} {w : World} {σ : L2.St} {H : Hp} {Q : VK} {a o C dx : Addr} {l : List Str} {fs : List (Str × V)} {f : Str} {v : V} {te ta tv : TE} {tas : TA} {D : Ends}
theorem r_sortS (h : SqL K H a (strL l)) (hn : l.length < 64) (q : ∀ p H', H p = none → Same H H' → H' p = some (.lst (strL (srt l))) → Q (.ref p) H') : rSortedS K [.ref a] H Q :=
  ⟨a, l, rfl, h, hn, fun ys p hp hs h0 => by
    rw [srt_of hp hs]
    exact q p _ h0 (same_new h0) upd_same⟩
theorem r_tfld (q : ta σ H fun x H1 => ∃ a C dx fs v, x = .ref a ∧ H1 a = some (.ins C dx fs) ∧ Cls K C ∧ NoAttr K C f ∧ fs.lookup f = some v ∧ Q v H1) : tFld K ta f σ H Q := q
theorem r_fget {P : V → Prop} (h : H o = some (.ins C dx fs)) (c : Cls K C) (n : NoAttr K C f) (l : fs.lookup f = some v) (q : P v) : ∃ a C dx fs v, V.ref o = .ref a ∧ H a = some (.ins C dx fs) ∧ Cls K C ∧ NoAttr K C f ∧ fs.lookup f = some v ∧ P v := ⟨o, C, dx, fs, v, rfl, h, c, n, l, q⟩
theorem r_sfld (q : tv σ H fun y H1 => ta σ H1 fun x H2 => ∃ a C dx fs, x = .ref a ∧ H2 a = some (.ins C dx fs) ∧ Cls K C ∧ NoAttr K C f ∧ fs.length < 1000 ∧ D.nx σ (upd H2 a (.ins C dx (putF f y fs)))) : sFld K ta tv f D σ H := q
theorem r_fput {N : Hp → Prop} (h : H o = some (.ins C dx fs)) (c : Cls K C) (n : NoAttr K C f) (l : fs.length < 1000) (q : ∀ H', SB o H H' → H' o = some (.ins C dx (putF f v fs)) → N H') : ∃ a C dx fs, V.ref o = .ref a ∧ H a = some (.ins C dx fs) ∧ Cls K C ∧ NoAttr K C f ∧ fs.length < 1000 ∧ N (upd H a (.ins C dx (putF f v fs))) :=
  ⟨o, C, dx, fs, rfl, h, c, n, l, q _ sb_upd upd_same⟩
theorem r_make {sp : Sp} {dvs : List V} {E : XK} (q : tas σ H fun vs H1 => ∀ x dx H', H1 x = none → Same H1 H' → H' x = some (.ins C dx []) → sp (.ref x :: (vs ++ dvs)) H' (fun v H2 => v = .non ∧ Q (.ref x) H2) E) (mono : ∀ {Q Q' : List V → Hp → Prop}, (∀ vs H, Q vs H → Q' vs H) → tas σ H Q → tas σ H Q') : tMake C sp dvs E tas σ H Q := by
  refine mono (fun vs H1 h => ?_) q
  intro x dx hx hdx ne
  refine h x dx _ hx (fun b o hb => ?_) upd_same
  rw [upd_ne (ne_of_none hb hx), upd_ne (ne_of_none hb hdx)]
  exact hb
theorem r_mk1 {P : Addr → Hp → Prop} (q : ∀ x dx H', H x = none → Same H H' → H' x = some (.ins C dx []) → P x H') : ∀ x dx, H x = none → H dx = none → dx ≠ x → P x (upd (upd H dx (.own x)) x (.ins C dx [])) := fun x dx hx hdx ne =>
  q x dx _ hx (fun b o hb => by
    rw [upd_ne (ne_of_none hb hx), upd_ne (ne_of_none hb hdx)]
    exact hb) upd_same
theorem r_tmake {sp : Sp} {dvs : List V} {E : XK} (q : tas σ H fun vs H1 => ∀ x dx, H1 x = none → H1 dx = none → dx ≠ x → sp (.ref x :: (vs ++ dvs)) (upd (upd H1 dx (.own x)) x (.ins C dx [])) (fun v H2 => v = .non ∧ Q (.ref x) H2) E) : tMake C sp dvs E tas σ H Q := q
theorem r_tmeth {sp : Sp} {dvs : List V} {E : XK} {m : Str} (q : ta σ H fun x H1 => ∃ a dx fs, x = .ref a ∧ H1 a = some (.ins C dx fs) ∧ fs.lookup m = none ∧ tas σ H1 fun vs H2 => sp (x :: (vs ++ dvs)) H2 Q E) : tMeth C m sp dvs E ta tas σ H Q := q
end
section
variable {K : PySem.W.Frag} {H : Hp} {Q : VK} {o C dx : Addr} {fs : List (Str × V)}
theorem r_isiC (h : H o = some (.ins C dx fs)) (c : ClsI K C) (q : Q (.bl true) H) : rIsi K [.ref o, .ref C] H Q := ⟨.ref o, .ref C, .ref C, .ref C, true, rfl, .own C, .base (.ins h c.cl c.at_ c.sp c.tk c.mro), by simp [PySem.W.kitOne], q⟩
end
theorem eqv_side (r s : Sd) : PyData.eqv (sideD r) (sideD s) = decide (r = s) := by
  obtain ⟨a, b, c⟩ := r
  obtain ⟨d, e, f⟩ := s
  simp only [sideD, PyData.eqv, PyData.eqvAll, eqv_strs]
  by_cases h1 : a = d <;> by_cases h2 : b = e <;> by_cases h3 : c = f <;> simp [h1, h2, h3]
theorem eqv_rows : ∀ rs ss : List Sd, PyData.eqvAll (rs.map sideD) (ss.map sideD) = decide (rs = ss)
  | [], [] => by simp [PyData.eqvAll]
  | [], _ :: _ => by simp [PyData.eqvAll]
  | _ :: _, [] => by simp [PyData.eqvAll]
  | a :: r, b :: t => by
    simp only [List.map_cons, PyData.eqvAll, eqv_side, eqv_rows r t]
    by_cases h : a = b <;> by_cases h' : r = t <;> simp [h, h']
/-- all letters of the products, each one once, in order -/
def sizesM (rows : List Sd) : List Str := sset (rows.flatMap fun r => r.2.1 ++ r.2.2)
section
variable {K : PySem.W.Frag} {a : Addr} {g : TG} {tt : TT} {te : TE} {vs : List Nat} {σ : L2.St} {H1 : Hp} {D : Addr} {Qd : Hp → Prop}
/-- a comprehension over texts that leaves some out -/
theorem lc_strF {l : List Str} (p : Str → Bool) (hD : H1 D = none) (ha : SqL K H1 a (strL l)) (hz : l.length < sizeLine)
    (hs : ∀ (i : Nat) (x : Str) (H : Hp), l[i]? = some x → Same H1 H → Turn (β := V) g tt te vs σ (fun _ x b => x = b) D H (.str x) (if p x = true then some (.str x) else none)) (hd : ∀ H, Same H1 H → H D = some (.lst (strL (l.filter p))) → Qd H) :
    ∃ W : Nat → Nat → Hp → Prop, (∃ m, W 0 m (upd H1 D (.lst []))) ∧ ∀ i m H, W i m H →
      ((Itl K a).stop i H ∧ Qd H) ∨ ((Itl K a).go i H ∧ ∃ Nx : Hp → Prop, (∀ H', Nx H' → ∃ m', m' < m ∧ W (i + 1) m' H') ∧ ∀ x H', (Itl K a).yld i H x H' → g x (wipe σ vs) H' fun σ2 H2 => wipe σ2 vs = wipe σ vs ∧ tt σ2 H2 fun b H3 =>
        if b = true then te σ2 H3 fun y H4 => ∃ acc, H4 D = some (.lst acc) ∧ acc.length < sizeLine ∧ Nx (upd H4 D (.lst (acc ++ [y]))) else Nx H3) := by
  refine lc_tell (β := V) (fun _ x b => x = b) (l.map fun x => if p x = true then some (.str x) else none) hD ha (by rw [strL_len, List.length_map]) (by rw [List.length_map]; exact hz) (fun _ _ _ _ _ z => z) (fun i x o H hx ho s1 _ => ?_) fun H acc s1 hacc pp => ?_
  · obtain ⟨z, hz, rfl⟩ := strL_get hx
    have e : o = if p z = true then some (.str z) else none := by
      rw [List.getElem?_map, hz] at ho
      exact (Option.some.inj ho).symm
    subst e
    exact hs i z H hz s1
  · have e : acc = strL (l.filter p) := by
      rw [pd_eq pp, List.filterMap_map]
      clear pp hs hz ha hd
      induction l with
      | nil => rfl
      | cons x l ih =>
        by_cases c : p x = true
        · rw [List.filterMap_cons_some (b := V.str x) (by show (if p x = true then some (V.str x) else none) = _; rw [if_pos c]), ih, List.filter_cons_of_pos c]
          rfl
        · rw [List.filterMap_cons_none (by show (if p x = true then some (V.str x) else none) = _; rw [if_neg c]), ih, List.filter_cons_of_neg c]
    rw [e] at hacc
    exact hd H s1 hacc
end
end CP

set_option Elab.async false
set_option linter.all false
set_option maxRecDepth 100000
set_option maxHeartbeats 4000000
set_option autoImplicit false
/-! lists of texts: remove, count -/
namespace CP
open L2 PySem PySem.Spec PyProof.Rows
def isTxt (k : Str) : Value → Bool
  | .str z _ => z == k
  | _ => false
theorem txt_beq (x y : Str) : (x.cps.toList == y.cps.toList) = (x == y) := by
  rw [Bool.eq_iff_iff, beq_iff_eq, beq_iff_eq]
  refine ⟨fun h => ?_, fun h => congrArg (fun z : Str => z.cps.toList) h⟩
  cases x
  cases y
  exact congrArg Str.mk (Array.toList_inj.mp h)
theorem txt_erase : ∀ (l : List Str) (j : Nat), strL (l.eraseIdx j) = (strL l).eraseIdx j
  | [], 0 => rfl
  | [], _ + 1 => rfl
  | _ :: _, 0 => rfl
  | z :: l, j + 1 => congrArg (List.cons (V.str z)) (txt_erase l j)
theorem txt_gives {k : Str} {t : Tok} : ∀ {l : List Str} {us : List Value}, Vals (strL l) us → ∀ y ∈ us, MeetsSeq.EqGives y (.str k t) (isTxt k y)
  | [], _, .nil, y, hy => nomatch hy
  | z :: l, _, .cons (l₂ := us) ⟨tz, ez⟩ r, y, hy => by
    subst ez
    rcases List.mem_cons.mp hy with rfl | hy
    · have := PySem.SeqRoads2.EqGives.str z k tz t
      rw [txt_beq] at this
      exact this
    · exact txt_gives (l := l) r y hy
theorem txt_count {k : Str} : ∀ {l : List Str} {us : List Value}, Vals (strL l) us → us.countP (isTxt k) = l.count k
  | [], _, .nil => rfl
  | z :: l, _, .cons (l₂ := us) ⟨tz, ez⟩ r => by
    subst ez
    have ih := txt_count (k := k) (l := l) r
    rw [List.countP_cons, List.count_cons, ih]
    rfl
theorem erase_at {k : Str} : ∀ {l : List Str}, k ∈ l → ∃ j, l[j]? = some k ∧ (∀ m, m < j → l[m]? ≠ some k) ∧ l.erase k = l.eraseIdx j
  | [], h => nomatch h
  | z :: l, h => by
    by_cases e : z = k
    · subst e
      exact ⟨0, rfl, fun _ h => absurd h (Nat.not_lt_zero _), by rw [List.erase_cons_head]; rfl⟩
    · obtain ⟨j, h1, h2, h3⟩ := erase_at (l := l) ((List.mem_cons.mp h).resolve_left (Ne.symm e))
      refine ⟨j + 1, h1, fun m hm => ?_, ?_⟩
      · cases m with
        | zero => exact fun z => e (Option.some.inj z)
        | succ m => exact h2 m (by omega)
      · rw [List.erase_cons_tail (by simpa using e), h3]
        rfl
section
variable {X : Cx}
def rRemS : V → List V → Hp → VK → Prop := fun x xs H Q => ∃ (l : Addr) (ns : List Str) (k : Str), x = .ref l ∧ xs = [.str k] ∧ H l = some (.lst (strL ns)) ∧ k ∈ ns ∧ Q .non (upd H l (.lst (strL (ns.erase k))))
theorem mt_remS : MtM X "list.remove" rRemS := by
  intro pins s σ H x xs v us Q I rx rxs ⟨l, ns, k, ex, exs, hH, hk, q⟩
  subst ex exs
  obtain ⟨j, hj, hno, hr⟩ := erase_at hk
  cases rx
  obtain ⟨u, eu, t, et⟩ := rxs.one
  subst eu et
  obtain ⟨z, its, n, r, hl, e⟩ := I.lstM hH
  have gv := txt_gives (k := k) (t := t) r
  have ln : its.length = ns.length := by rw [← r.length, strL_len]
  rw [strL_len] at hl z
  have jn : j < ns.length := (List.getElem?_eq_some_iff.mp hj).1
  have at_ : ∀ (m : Nat) (hm : m < its.toArray.size), ∃ tm, its.toArray[m] = .str (ns[m]'(by rw [List.size_toArray] at hm; omega)) tm := fun m hm => by
    have hm' : m < ns.length := by rw [List.size_toArray] at hm; omega
    obtain ⟨w, hw, tm, ew⟩ := r.get (i := m) (x := .str ns[m]) (by unfold strL; rw [List.getElem?_map, List.getElem?_eq_getElem hm']; rfl)
    subst ew
    obtain ⟨_, h2⟩ := List.getElem?_eq_some_iff.mp hw
    exact ⟨tm, by simpa using h2⟩
  have js : j < its.toArray.size := by rw [List.size_toArray]; omega
  refine call_meets PySem.F.slot_list_remove ⟨_, e, rfl⟩ PySem.F.entry_list_remove (PySem.F.args_list_remove_2 _ _)
    (MeetsSeq.list_remove l its.toArray n (.str k t) (isTxt k) (fun y hy => gv y (by simpa using hy)) j js ?_ (fun m hm lt => ?_) (by rw [List.size_toArray]; omega)) ⟨e, .non, _, I.lset (its' := its.eraseIdx j) (t' := s.toks) (ys := strL (ns.erase k)) hH e ?_ ?_ ?_, rfl, q⟩
  · obtain ⟨tm, em⟩ := at_ j js
    rw [em, (List.getElem?_eq_some_iff.mp hj).2]
    exact beq_self_eq_true k
  · obtain ⟨tm, em⟩ := at_ m hm
    rw [em]
    refine beq_eq_false_iff_ne.mpr fun h => hno m lt ?_
    have hm' : m < ns.length := by omega
    rw [List.getElem?_eq_getElem hm', h]
  · show its.toArray.eraseIdxIfInBounds j = (its.eraseIdx j).toArray
    rw [List.eraseIdxIfInBounds_toArray]
  · have e1 : strL (ns.erase k) = (strL ns).eraseIdx j := by
      rw [hr]
      exact txt_erase ns j
    rw [e1]
    exact r.eraseIdx j
  · rw [strL_len]
    have := List.length_erase_le (a := k) (l := ns)
    omega
def rCntS (K : PySem.W.Frag) : V → List V → Hp → VK → Prop := fun x xs H Q => ∃ (p : Addr) (ns : List Str) (k : Str), x = .ref p ∧ xs = [.str k] ∧ SqL K H p (strL ns) ∧ Q (.int (ns.count k : Nat)) H
theorem mt_cntS : MtR X "list.count" (rCntS X.K) := by
  intro pins s σ H x xs v us Q I rx rxs ⟨p, ns, k, ex, exs, hs, q⟩
  subst ex exs
  cases rx
  obtain ⟨u, eu, t, et⟩ := rxs.one
  subst eu et
  obtain ⟨its, rv, ⟨⟨cls, dd, data, sl⟩, n, ho, hc, hdn, hd⟩, hlen⟩ := I.list hs
  simp only at hc hd
  subst hc hd
  have gv := txt_gives (k := k) (t := t) rv
  have cn : its.toArray.toList.countP (isTxt k) = ns.count k := txt_count rv
  refine call_meets PySem.F.slot_list_count ⟨_, ho, rfl⟩ PySem.F.entry_list_count (PySem.F.args_list_count_2 _ _)
    (SeqAt.list_countAt p its.toArray n dd sl (.str k t) (isTxt k)) ⟨ho, fun y hy => (gv y (by simpa using hy)).at _ _, .int (ns.count k : Nat), H, I.tok _, ⟨s.toks, ?_⟩, q⟩
  show Value.int ((its.toArray.toList.countP (isTxt k) : Nat) : Int) s.toks = _
  rw [cn]
end
section
variable {K : PySem.W.Frag} {H : Hp} {Q : VK} {l : Addr} {ns : List Str} {xs : List V} {k : Str} {i : Int} {y : V}
theorem r_remS (h : H l = some (.lst (strL ns))) (hk : k ∈ ns) (q : ∀ H', SB l H H' → H' l = some (.lst (strL (ns.erase k))) → Q .non H') : rRemS (.ref l) [.str k] H Q := ⟨l, ns, k, rfl, rfl, h, hk, q _ sb_upd upd_same⟩
theorem r_cntS (h : SqL K H l (strL ns)) (q : Q (.int (ns.count k : Nat)) H) : rCntS K (.ref l) [.str k] H Q := ⟨l, ns, k, rfl, rfl, h, q⟩
def rInsL : V → List V → Hp → VK → Prop := fun x vs H Q => ∃ (l : Addr) (xs : List V) (i : Int) (y : V), x = .ref l ∧ vs = [.int i, y] ∧ H l = some (.lst xs) ∧ xs.length < sizeLine ∧ 0 ≤ i ∧ i < 2 ^ 63 ∧ Q .non (upd H l (.lst (xs.take i.toNat ++ [y] ++ xs.drop i.toNat)))
theorem r_insL (h : H l = some (.lst xs)) (hz : xs.length < sizeLine) (h0 : 0 ≤ i) (h1 : i < 2 ^ 63) (q : ∀ H', SB l H H' → H' l = some (.lst (xs.take i.toNat ++ [y] ++ xs.drop i.toNat)) → Q .non H') : rInsL (.ref l) [.int i, y] H Q := ⟨l, xs, i, y, rfl, rfl, h, hz, h0, h1, q _ sb_upd upd_same⟩
end
theorem mt_insL {X : Cx} : MtR X "list.insert" rInsL := mt_insert
end CP

set_option Elab.async false
set_option linter.all false
set_option maxRecDepth 100000
set_option maxHeartbeats 4000000
set_option autoImplicit false
/-! what the functions of plain compute -/
namespace CP
open L2 PySem PyProof.Rows
theorem drop_succ {α : Type} {l : List α} {i : Nat} {x : α} (h : l[i]? = some x) : l.drop i = x :: l.drop (i + 1) := by
  obtain ⟨h1, h2⟩ := List.getElem?_eq_some_iff.mp h
  rw [List.drop_eq_getElem_cons h1, h2]
/-- a product taken out of another -/
def restOf : List Str → List Str → Option (List Str)
  | l, [] => some l
  | l, k :: o => if k ∈ l then restOf (l.erase k) o else none
theorem restOf_len : ∀ {o l m : List Str}, restOf l o = some m → m.length ≤ l.length
  | [], l, m, h => by cases h; exact Nat.le_refl _
  | k :: o, l, m, h => by
    unfold restOf at h
    split at h
    · exact Nat.le_trans (restOf_len h) List.length_erase_le
    · cases h
theorem restOf_mem : ∀ {o l m : List Str}, restOf l o = some m → ∀ x ∈ m, x ∈ l
  | [], l, m, h, x, hx => by cases h; exact hx
  | k :: o, l, m, h, x, hx => by
    unfold restOf at h
    split at h
    · exact List.mem_of_mem_erase (restOf_mem h x hx)
    · cases h
/-- the first side's step times its size divides the second one's step -/
def aheadB (r s : Sd) : Bool := (restOf s.2.2 (r.2.1 ++ r.2.2)).isSome
/-- the sides laid one by one in their order -/
def ordGo : List Sd → List Sd → List Sd ⊕ (Sd × Sd)
  | found, [] => .inl found
  | found, r :: rs => if r.2.1 = [] then ordGo found rs else
      match found.filter fun f => !aheadB f r && !aheadB r f with
      | w :: _ => .inr (w, r)
      | [] => ordGo (found.take (found.filter fun f => aheadB f r).length ++ [r] ++ found.drop (found.filter fun f => aheadB f r).length) rs
def orderM (rows : List Sd) : List Sd ⊕ (Sd × Sd) := ordGo [] rows
theorem ordGo_inl : ∀ {rs f fs : List Sd}, ordGo f rs = .inl fs → (∀ x ∈ fs, x ∈ f ∨ x ∈ rs) ∧ fs.length ≤ f.length + rs.length
  | [], f, fs, h => by cases h; exact ⟨fun x hx => .inl hx, by simp⟩
  | r :: rs, f, fs, h => by
    unfold ordGo at h
    split at h
    · obtain ⟨h1, h2⟩ := ordGo_inl h
      exact ⟨fun x hx => (h1 x hx).imp id (List.mem_cons_of_mem _), by rw [List.length_cons]; omega⟩
    · split at h
      · cases h
      · obtain ⟨h1, h2⟩ := ordGo_inl h
        refine ⟨fun x hx => ?_, ?_⟩
        · rcases h1 x hx with z | z
          · rcases List.mem_append.mp z with z | z
            · rcases List.mem_append.mp z with z | z
              · exact .inl (List.mem_of_mem_take z)
              · exact .inr (by rw [List.mem_singleton.mp z]; exact List.mem_cons_self ..)
            · exact .inl (List.mem_of_mem_drop z)
          · exact .inr (List.mem_cons_of_mem _ z)
        · rw [List.length_append, List.length_append, List.length_take, List.length_drop, List.length_singleton] at h2
          rw [List.length_cons]
          omega
theorem ordGo_inr : ∀ {rs f : List Sd} {u v : Sd}, ordGo f rs = .inr (u, v) → (u ∈ f ∨ u ∈ rs) ∧ v ∈ rs
  | [], f, u, v, h => by cases h
  | r :: rs, f, u, v, h => by
    unfold ordGo at h
    split at h
    · obtain ⟨h1, h2⟩ := ordGo_inr h
      exact ⟨h1.imp id (List.mem_cons_of_mem _), List.mem_cons_of_mem _ h2⟩
    · split at h
      · rename_i w ws e
        cases h
        have : u ∈ f.filter fun f => !aheadB f r && !aheadB r f := by rw [e]; exact List.mem_cons_self ..
        exact ⟨.inl (List.mem_filter.mp this).1, List.mem_cons_self ..⟩
      · obtain ⟨h1, h2⟩ := ordGo_inr h
        refine ⟨?_, List.mem_cons_of_mem _ h2⟩
        rcases h1 with z | z
        · rcases List.mem_append.mp z with z | z
          · rcases List.mem_append.mp z with z | z
            · exact .inl (List.mem_of_mem_take z)
            · exact .inr (by rw [List.mem_singleton.mp z]; exact List.mem_cons_self ..)
          · exact .inl (List.mem_of_mem_drop z)
        · exact .inr (List.mem_cons_of_mem _ z)
theorem order_inl {rows fs : List Sd} (h : orderM rows = .inl fs) : (∀ x ∈ fs, x ∈ rows) ∧ fs.length ≤ rows.length := by
  obtain ⟨h1, h2⟩ := ordGo_inl h
  exact ⟨fun x hx => (h1 x hx).resolve_left (fun z => nomatch z), by simpa using h2⟩
theorem order_inr {rows : List Sd} {u v : Sd} (h : orderM rows = .inr (u, v)) : u ∈ rows ∧ v ∈ rows := by
  obtain ⟨h1, h2⟩ := ordGo_inr h
  exact ⟨h1.resolve_left (fun z => nomatch z), h2⟩
theorem filter_opt {α : Type} (p : α → Bool) (l : List α) : (l.map fun r => if p r = true then some r else none).filterMap id = l.filter p := by
  induction l with
  | nil => rfl
  | cons a l ih =>
    rw [List.map_cons, List.filter_cons]
    cases e : p a with
    | true => simp only [if_true, List.filterMap_cons, id_eq]; rw [ih]
    | false => simp only [Bool.false_eq_true, if_false, List.filterMap_cons, id_eq]; exact ih
theorem SideAt.hid {D : Addr} {H1 H : Hp} {v : V} {r : Sd} (h : SideAt H1 v r) (hD : H1 D = none) (s : Same H1 H) : SideAt (hide D H) v r := by
  have := hide_mono (D := D) s
  rw [hide_none hD] at this
  exact h.mono this
section
variable {K : PySem.W.Frag} {a : Addr} {g : TG} {tt : TT} {te : TE} {vs : List Nat} {σ : L2.St} {H1 : Hp} {D : Addr} {Qd : Hp → Prop}
/-- a comprehension over sides that leaves some out -/
theorem lc_sdF {xs : List V} {fs : List Sd} (p : Sd → Bool) (pr : Paired (SideAt H1) xs fs) (hD : H1 D = none) (ha : SqL K H1 a xs) (hz : fs.length < sizeLine)
    (hs : ∀ (i : Nat) (x : V) (r : Sd) (H : Hp) (N : Hp → Prop), xs[i]? = some x → fs[i]? = some r → SideAt H x r → Same H1 H → (∀ H', p r = false → Same H H' → N H') → (∀ H', p r = true → Same H H' → ∃ acc, H' D = some (.lst acc) ∧ acc.length < sizeLine ∧ N (upd H' D (.lst (acc ++ [x])))) →
      g x (wipe σ vs) H fun σ2 H2 => wipe σ2 vs = wipe σ vs ∧ tt σ2 H2 fun b H3 => if b = true then te σ2 H3 fun y H4 => ∃ acc, H4 D = some (.lst acc) ∧ acc.length < sizeLine ∧ N (upd H4 D (.lst (acc ++ [y]))) else N H3)
    (hd : ∀ H acc, Same H1 H → H D = some (.lst acc) → Paired (SideAt H) acc (fs.filter p) → Qd H) :
    ∃ W : Nat → Nat → Hp → Prop, (∃ m, W 0 m (upd H1 D (.lst []))) ∧ ∀ i m H, W i m H →
      ((Itl K a).stop i H ∧ Qd H) ∨ ((Itl K a).go i H ∧ ∃ Nx : Hp → Prop, (∀ H', Nx H' → ∃ m', m' < m ∧ W (i + 1) m' H') ∧ ∀ x H', (Itl K a).yld i H x H' → g x (wipe σ vs) H' fun σ2 H2 => wipe σ2 vs = wipe σ vs ∧ tt σ2 H2 fun b H3 =>
        if b = true then te σ2 H3 fun y H4 => ∃ acc, H4 D = some (.lst acc) ∧ acc.length < sizeLine ∧ Nx (upd H4 D (.lst (acc ++ [y]))) else Nx H3) := by
  refine lc_tell (β := Sd) SideAt (fs.map fun r => if p r = true then some r else none) hD ha (by rw [List.length_map]; exact pd_len pr) (by rw [List.length_map]; exact hz) (fun _ _ _ _ s z => SideAt.mono z s) (fun i x o H hx ho s1 _ N no yes => ?_) fun H acc s1 hacc pp => ?_
  · obtain ⟨r, hr, sr⟩ := pd_get pr hx
    have e : o = if p r = true then some r else none := by
      rw [List.getElem?_map, hr] at ho
      exact (Option.some.inj ho).symm
    subst e
    refine hs i x r H N hx hr (sr.mono s1) s1 (fun H' h s2 => no H' (by rw [h]; rfl) s2) fun H' h s2 => yes H' x r (by rw [h]; rfl) s2 (sr.hid hD (s1.trans s2))
  · rw [filter_opt] at pp
    exact hd H acc s1 hacc pp
end
theorem pd_take {α β : Type} {R : α → β → Prop} {xs : List α} {ys : List β} (h : Paired R xs ys) : ∀ n, Paired R (xs.take n) (ys.take n) := by
  induction h with
  | nil => intro n; rw [List.take_nil, List.take_nil]; exact .nil
  | cons h _ ih =>
    intro n
    cases n with
    | zero => exact .nil
    | succ n => exact .cons h (ih n)
theorem pd_drop {α β : Type} {R : α → β → Prop} {xs : List α} {ys : List β} (h : Paired R xs ys) : ∀ n, Paired R (xs.drop n) (ys.drop n) := by
  induction h with
  | nil => intro n; rw [List.drop_nil, List.drop_nil]; exact .nil
  | cons h t ih =>
    intro n
    cases n with
    | zero => exact .cons h t
    | succ n => exact ih n
theorem sides_dp {K : PySem.W.Frag} {H : Hp} {vs : List V} {fs : List Sd} (pr : Paired (SideAt H) vs fs) (h : ∀ f ∈ fs, letB f.1 = true ∧ Lets f.2.1 ∧ Lets f.2.2) : ∃ ds, DpAll K H vs ds ∧ PyData.canLayAll0 ds = true ∧ PyData.depthAll ds ≤ 60 := by
  have l := rows_lay (rows := fs) fun r hr => side_lay (let_lay (h r hr).1) (h r hr).2.1.lay (h r hr).2.2.lay
  exact ⟨_, rows_dp pr, l.1, Nat.le_trans l.2 (by decide)⟩
/-- the cell with one index alone -/
def loneM (rows : List Sd) (z : Str) (n : Int) : List Int := rows.map fun r => if r.1 = z then n else 0
/-- a letter that stands oftener in the first -/
def moreM (l o : List Str) : Option Str := l.find? fun k => decide (o.count k < l.count k)
def sharedGo : List Str → List Str → List Str
  | [], _ => []
  | k :: l, o => if k ∈ o then k :: sharedGo l (o.erase k) else sharedGo l o
def sharedM (l o : List Str) : List Str := sharedGo l o
def prodF (f : Str → Int) (l : List Str) : Int := l.foldl (fun a k => a * f k) 1
theorem prodF_app {f : Str → Int} {l : List Str} {k : Str} : prodF f (l ++ [k]) = prodF f l * f k := by
  unfold prodF
  rw [List.foldl_append]
  rfl
theorem foldl_pos {f : Str → Int} : ∀ {l : List Str} {a : Int}, 0 ≤ a → (∀ x ∈ l, 0 ≤ f x) → 0 ≤ l.foldl (fun a k => a * f k) a
  | [], a, h, _ => h
  | k :: l, a, h, hf => foldl_pos (l := l) (Int.mul_nonneg h (hf k (List.mem_cons_self ..))) fun x hx => hf x (List.mem_cons_of_mem _ hx)
theorem prodF_pos {f : Str → Int} {l : List Str} (h : ∀ x ∈ l, 0 ≤ f x) : 0 ≤ prodF f l := foldl_pos (by decide) h
theorem pd_rev {α β : Type} {R : α → β → Prop} {xs : List α} {ys : List β} (h : Paired R xs ys) : Paired R xs.reverse ys.reverse := by
  induction h with
  | nil => exact .nil
  | cons h _ ih => rw [List.reverse_cons, List.reverse_cons]; exact pd_app ih (pd_one h)
end CP

set_option Elab.async false
set_option linter.all false
set_option maxRecDepth 100000
set_option maxHeartbeats 4000000
set_option autoImplicit false
/-! dict comprehensions stored in a local name; over a list of texts -/
namespace CP
open L2 PySem PyProof.Rows
section
variable {X : Cx}
theorem ps_setDc {i : Nat} {nm : Str} {py : Pos} {kx vx tg iter : Expr} {ifs : List Expr} {scope : Scope} {own : List (Str × Nat)} {pos spos : Pos} {wi : TI} {g : TG} {tt : TT} {tk tv : TE} (calm : X.calm = true) (nd : X.N.Nodup) (hi : X.N[i]? = some nm) (hloc : X.env.scope.names.lookup nm = some .local)
    (sw : swapsWith (.DictComp kx vx [⟨tg, iter, ifs, 0⟩] scope pos) (some (.Name nm py)) spos.line X.env = pure true) (it : PI X tg iter wi) (blk : BlkOk X.N X.env.scope scope own)
    (dg : ∀ (s : Shared) (H : Hp) (C : Addr) (cl : List (Str × Addr)) (fp : List Addr), PG (X.blk s H scope (compEnvC scope cl C X.env) fp) tg g) (dt : ∀ (s : Shared) (H : Hp) (C : Addr) (cl : List (Str × Addr)) (fp : List Addr), PTs (X.blk s H scope (compEnvC scope cl C X.env) fp) ifs tt)
    (dk : ∀ (s : Shared) (H : Hp) (C : Addr) (cl : List (Str × Addr)) (fp : List Addr), PE (X.blk s H scope (compEnvC scope cl C X.env) fp) kx tk)
    (dv : ∀ (s : Shared) (H : Hp) (C : Addr) (cl : List (Str × Addr)) (fp : List Addr), PE (X.blk s H scope (compEnvC scope cl C X.env) fp) vx tv) (fold : ∀ x, foldedSetIterable iter X.env x = pure x := by intro _; rfl) :
    PS X (.Assign [.Name nm py] (.DictComp kx vx [⟨tg, iter, ifs, 0⟩] scope pos) spos) (tAsg (tDc wi g tt tk tv (own.map (·.2))) (gName i)) := by
  constructor
  intro pins s σ H En I h
  rw [exec_Assign_Name_used (hs := sw)]
  refine wpAny_bind (wpAny_standAt ?_)
  have h : tDc wi g tt tk tv (own.map (·.2)) σ H (fun x H1 => gName i x σ H1 En.nx) := h
  refine wpAny_bind ?_
  show wpAny _ X.A (do let _ ← comprehension (.DictComp kx vx [⟨tg, iter, ifs, 0⟩] scope pos) scope X.env (firstIterPos [⟨tg, iter, ifs, 0⟩] pos) newDict false (eval iter X.env) (some (assign (.Name nm py) X.env))) _ _ s
  refine wpAny_bind (thn (dc_core (Qf := fun _ s' => SP X pins En .next s') calm nd I it blk dg dt dk dv fold h ?_) fun _ s' z => wpAny_pure (wpAny_pure z))
  intro D C s' m H' J q ns fo
  obtain ⟨p0, p1, p2, p3, p4, p5⟩ := fo
  refine wpAny_assign_Name (store_ok2 (v := V.ref D) J nd hi (.inl hloc) rfl (fun s2 J2 ⟨a, sb, ha⟩ => ?_) (.inr hloc))
  have ca : C ≠ a := ha.elim (fun z => z ▸ p1) fun z e => p4 nm a z e.symm
  exact ⟨m, ns.sameBut sb ca, fun h3 sb3 => ⟨_, H', J2.turned (t' := s2.toks) (fun b o hb e => (sb3.2 b hb).trans e) p0 p1 p3 p4 p5, q⟩⟩
theorem swd_true {kx vx : Expr} {gs : List Comprehension} {scope : Scope} {pos py : Pos} {nm : Str} {l : Nat} {env : Env} (hf : env.scope.kind = .function) (hn : env.scope.names.lookup nm = some .local) (hl : (py.line == pos.line) = true)
    (no : (scope.names.any fun (n, k) => n == nm && (k == .local || k == .cell)) = false) : swapsWith (.DictComp kx vx gs scope pos) (some (.Name nm py)) l env = pure true := by
  have e1 : env.kindOf nm = some .local := hn
  have e2 : env.blockKind = .function := by
    unfold Env.blockKind
    rw [hf]
    rfl
  simp only [swapsWith, e2, e1, no, Expr.pos, hl]
  rfl
end
/-- a dict of numbers by letters -/
def dV (l : List (Str × Int)) : List (Key × V) := l.map fun p => (Sum.inr p.1, V.int p.2)
section
variable {K : PySem.W.Frag} {a : Addr} {g : TG} {tt : TT} {tk tv : TE} {vs : List Nat} {σ : L2.St} {H1 : Hp} {D : Addr} {Qd : Hp → Prop} {xs : List V}
theorem dc_list (Pv : Nat → Hp → Prop) (start : Pv 0 (upd H1 D (.dK []))) (stay : ∀ i H, i ≤ xs.length → Pv i H → SqL K H a xs)
    (step : ∀ i x H, xs[i]? = some x → Pv i H → g x (wipe σ vs) H fun σ2 H2 => wipe σ2 vs = wipe σ vs ∧ tt σ2 H2 fun b H3 =>
      if b = true then tk σ2 H3 fun y H4 => tv σ2 H4 fun z H5 => ∃ kvs k, y = kV k ∧ H5 D = some (.dK kvs) ∧ kvs.length < sizeLine ∧ Pv (i + 1) (upd H5 D (.dK (putK kvs k z))) else Pv (i + 1) H3) (fin : ∀ H, Pv xs.length H → Qd H) :
    ∃ W : Nat → Nat → Hp → Prop, (∃ m, W 0 m (upd H1 D (.dK []))) ∧ ∀ i m H, W i m H →
      ((Itl K a).stop i H ∧ Qd H) ∨ ((Itl K a).go i H ∧ ∃ Nx : Hp → Prop, (∀ H', Nx H' → ∃ m', m' < m ∧ W (i + 1) m' H') ∧ ∀ x H', (Itl K a).yld i H x H' → g x (wipe σ vs) H' fun σ2 H2 => wipe σ2 vs = wipe σ vs ∧ tt σ2 H2 fun b H3 =>
        if b = true then tk σ2 H3 fun y H4 => tv σ2 H4 fun z H5 => ∃ kvs k, y = kV k ∧ H5 D = some (.dK kvs) ∧ kvs.length < sizeLine ∧ Nx (upd H5 D (.dK (putK kvs k z))) else Nx H3) := by
  refine ⟨fun i m H => m = xs.length - i ∧ i ≤ xs.length ∧ Pv i H, ⟨_, rfl, Nat.zero_le _, start⟩, fun i m H ⟨em, hi, p⟩ => ?_⟩
  subst em
  have q := stay i H hi p
  rcases Nat.lt_or_ge i xs.length with lt | ge
  · refine .inr ⟨⟨xs, xs[i], q, List.getElem?_eq_getElem lt⟩, Pv (i + 1), fun H' p' => ⟨xs.length - (i + 1), by omega, rfl, lt, p'⟩, fun x H' y => ?_⟩
    obtain ⟨eH, hx⟩ := y
    cases eH
    exact step i x H (hx xs q) p
  · have e : i = xs.length := by omega
    subst e
    exact .inl ⟨⟨xs, q, (Nat.le_refl _ : xs.length ≤ xs.length)⟩, fin H p⟩
end
/-- a value laid under a letter -/
def setD : List (Str × Int) → Str → Int → List (Str × Int)
  | [], k, n => [(k, n)]
  | p :: l, k, n => if p.1 = k then (k, n) :: l else p :: setD l k n
def getD : List (Str × Int) → Str → Option Int
  | [], _ => none
  | p :: l, k => if p.1 = k then some p.2 else getD l k
theorem dV_val : ∀ (l : List (Str × Int)) (k : Str), valV (dV l) (Sum.inr k) = (getD l k).map V.int
  | [], k => rfl
  | p :: l, k => by
    show valV ((Sum.inr p.1, V.int p.2) :: dV l) (Sum.inr k) = _
    unfold getD
    by_cases e : p.1 = k
    · rw [valV_pos (by rw [e]), if_pos e]; rfl
    · rw [valV_neg (fun z => e (by injection z)), if_neg e]; exact dV_val l k
theorem setD_keys : ∀ {l : List (Str × Int)} {k : Str} {n : Int}, k ∈ l.map (·.1) → (setD l k n).map (·.1) = l.map (·.1)
  | [], k, n, h => nomatch h
  | p :: l, k, n, h => by
    unfold setD
    by_cases e : p.1 = k
    · rw [if_pos e, List.map_cons, List.map_cons, e]
    · rw [if_neg e, List.map_cons, List.map_cons, setD_keys ((List.mem_cons.mp h).resolve_left (Ne.symm e))]
theorem setD_new : ∀ {l : List (Str × Int)} {k : Str} {n : Int}, k ∉ l.map (·.1) → setD l k n = l ++ [(k, n)]
  | [], k, n, h => rfl
  | p :: l, k, n, h => by
    unfold setD
    rw [if_neg (fun e => h (by rw [List.map_cons, e]; exact List.mem_cons_self ..)), setD_new (l := l) (fun z => h (List.mem_cons_of_mem _ z))]
    rfl
theorem setD_len (l : List (Str × Int)) (k : Str) (n : Int) : (setD l k n).length ≤ l.length + 1 := by
  induction l with
  | nil => exact Nat.le_refl _
  | cons p l ih =>
    unfold setD
    split
    · rw [List.length_cons, List.length_cons]; omega
    · rw [List.length_cons, List.length_cons]; omega
theorem getD_setD : ∀ (l : List (Str × Int)) (k j : Str) (n : Int), getD (setD l k n) j = if k = j then some n else getD l j
  | [], k, j, n => rfl
  | p :: l, k, j, n => by
    unfold setD
    by_cases e : p.1 = k
    · rw [if_pos e]
      unfold getD
      by_cases f : k = j
      · rw [if_pos f, if_pos f]
      · rw [if_neg f, if_neg f, if_neg (by rw [e]; exact f)]
    · rw [if_neg e]
      unfold getD
      by_cases f : p.1 = j
      · rw [if_pos f, if_pos f, if_neg (by rw [← f]; exact Ne.symm e)]
      · rw [if_neg f, if_neg f, getD_setD l k j n]
theorem dV_any (l : List (Str × Int)) (k : Str) : ((dV l).any fun kv => decide (kv.1 = (Sum.inr k : Key))) = decide (k ∈ l.map (·.1)) := by
  unfold dV
  rw [List.any_map]
  induction l with
  | nil => rfl
  | cons p l ih =>
    rw [List.any_cons, ih]
    show (decide ((Sum.inr p.1 : Key) = Sum.inr k) || _) = _
    by_cases e : p.1 = k
    · subst e; simp
    · have : ¬ ((Sum.inr p.1 : Key) = Sum.inr k) := fun z => e (by injection z)
      rw [decide_eq_false this]
      simp [Ne.symm e]
theorem dV_put (l : List (Str × Int)) (k : Str) (n : Int) (nd : (l.map (·.1)).Nodup) : putK (dV l) (Sum.inr k) (.int n) = dV (setD l k n) := by
  unfold putK
  rw [dV_any]
  by_cases h : k ∈ l.map (·.1)
  · rw [if_pos (decide_eq_true h)]
    induction l with
    | nil => cases h
    | cons p l ih =>
      unfold setD
      by_cases e : p.1 = k
      · rw [if_pos e]
        have nk : ∀ q ∈ l, q.1 ≠ k := fun q hq z => (List.pairwise_cons.mp nd).1 q.1 (List.mem_map.mpr ⟨q, hq, rfl⟩) (e.trans z.symm)
        subst e
        show _ :: _ = _ :: _
        congr 1
        · simp
        · clear ih h nd
          induction l with
          | nil => rfl
          | cons q l ih2 =>
            have i2 := ih2 fun q hq => nk q (List.mem_cons_of_mem _ hq)
            have n2 : ¬ ((Sum.inr q.1 : Key) = Sum.inr p.1) := fun z => nk q (List.mem_cons_self ..) (by injection z)
            show _ :: _ = _ :: _
            congr 1
            exact if_neg n2
      · rw [if_neg e]
        have n2 : ¬ ((Sum.inr p.1 : Key) = Sum.inr k) := fun z => e (by injection z)
        show _ :: _ = _ :: _
        congr 1
        · exact if_neg n2
        · exact ih (List.pairwise_cons.mp nd).2 ((List.mem_cons.mp h).resolve_left (Ne.symm e))
  · rw [if_neg (by simpa using h), setD_new h]
    unfold dV
    rw [List.map_append]
    rfl
theorem r_dc {wi : TI} {g : TG} {tt : TT} {tk tv : TE} {vs : List Nat} {σ : L2.St} {H : Hp} {Q : VK} (q : wi σ H fun J H1 => ∀ D, H1 D = none → ∃ W : Nat → Nat → Hp → Prop, (∃ m, W 0 m (upd H1 D (.dK []))) ∧ ∀ i m H, W i m H →
  (J.stop i H ∧ Q (.ref D) H) ∨ (J.go i H ∧ ∃ Nx : Hp → Prop, (∀ H', Nx H' → ∃ m', m' < m ∧ W (i + 1) m' H') ∧ ∀ x H', J.yld i H x H' → g x (wipe σ vs) H' fun σ2 H2 => wipe σ2 vs = wipe σ vs ∧ tt σ2 H2 fun b H3 =>
    if b = true then tk σ2 H3 fun y H4 => tv σ2 H4 fun z H5 => ∃ kvs k, y = kV k ∧ H5 D = some (.dK kvs) ∧ kvs.length < sizeLine ∧ Nx (upd H5 D (.dK (putK kvs k z))) else Nx H3)) : tDc wi g tt tk tv vs σ H Q := q
/-- values of 2 for all letters -/
def allTwo (l : List Str) : List (Str × Int) := l.map fun k => (k, 2)
theorem allTwo_keys (l : List Str) : (allTwo l).map (·.1) = l := by
  unfold allTwo
  rw [List.map_map]
  exact List.map_id l
theorem allTwo_get {l : List Str} {k : Str} (h : k ∈ l) : getD (allTwo l) k = some 2 := by
  unfold allTwo
  induction l with
  | nil => cases h
  | cons a l ih =>
    show (if a = k then some 2 else getD _ k) = some 2
    by_cases e : a = k
    · rw [if_pos e]
    · rw [if_neg e]; exact ih ((List.mem_cons.mp h).resolve_left (Ne.symm e))
theorem allTwo_succ {l : List Str} {i : Nat} {k : Str} (h : l[i]? = some k) (nd : l.Nodup) : putK (dV (allTwo (l.take i))) (Sum.inr k) (.int 2) = dV (allTwo (l.take (i + 1))) := by
  have nk : k ∉ l.take i := fun z => by
    rw [← List.take_append_drop (i + 1) l, take_succ h] at nd
    have := (List.nodup_append.mp (List.nodup_append.mp nd).1).2.2 k z k (List.mem_singleton.mpr rfl)
    exact this rfl
  rw [dV_put _ _ _ (by rw [allTwo_keys]; exact nd.sublist (List.take_sublist ..)), setD_new (by rw [allTwo_keys]; exact nk), take_succ h]
  unfold allTwo
  rw [List.map_append]
  rfl
theorem prod_two (l : List Str) : prodF (fun _ => 2) l = 2 ^ l.length := by
  unfold prodF
  suffices ∀ (l : List Str) (a : Int), l.foldl (fun a _ => a * 2) a = a * 2 ^ l.length by rw [this, Int.one_mul]
  intro l
  induction l with
  | nil => intro a; show a = a * 2 ^ 0; rw [Int.pow_zero, Int.mul_one]
  | cons k l ih =>
    intro a
    rw [List.foldl_cons, ih, List.length_cons, Int.pow_succ, Int.mul_assoc, Int.mul_comm 2]
/-- the first gap -/
def holeGo (szs : List Str) : List Str → List Sd → Option (List (Str × Int) × Int)
  | _, [] => none
  | due, r :: fs => if r.2.2 = due then holeGo szs (srt (r.2.1 ++ r.2.2)) fs else some (allTwo szs, prodF (fun _ => 2) due)
def holeM (szs : List Str) (fs : List Sd) : Option (List (Str × Int) × Int) := holeGo szs [] fs
theorem mem_sizes {rows : List Sd} {r : Sd} (h : r ∈ rows) {x : Str} (hx : x ∈ r.2.1 ++ r.2.2) : x ∈ sizesM rows := by
  unfold sizesM
  rw [mem_sset]
  exact List.mem_flatMap.mpr ⟨r, h, hx⟩
theorem sizes_nd (rows : List Sd) : (sizesM rows).Nodup := sset_nodup _
theorem sizes_len {rows : List Sd} (h : Rows rows) : (sizesM rows).length ≤ 1200 := by
  refine Nat.le_trans (sset_len _) ?_
  have few := h.few
  suffices ∀ l : List Sd, (∀ r ∈ l, r ∈ rows) → (l.flatMap fun r => r.2.1 ++ r.2.2).length ≤ 60 * l.length by
    have := this rows fun _ h => h
    omega
  intro l
  induction l with
  | nil => intro _; exact Nat.le_refl _
  | cons r l ih =>
    intro hl
    have := ih fun x hx => hl x (List.mem_cons_of_mem _ hx)
    have a := (h.size r (hl r (List.mem_cons_self ..))).2
    have b := (h.step r (hl r (List.mem_cons_self ..))).2
    rw [List.flatMap_cons, List.length_append, List.length_append, List.length_cons]
    omega
theorem sizes_let {rows : List Sd} (h : Rows rows) : ∀ x ∈ sizesM rows, letB x = true := fun x hx => by
  unfold sizesM at hx
  rw [mem_sset] at hx
  obtain ⟨r, hr, hx⟩ := List.mem_flatMap.mp hx
  rcases List.mem_append.mp hx with z | z
  · exact (h.size r hr).1 x z
  · exact (h.step r hr).1 x z
section
variable {σ : L2.St} {H : Hp} {D : Ends} {tas : TA} {i j l : Nat}
theorem r_par3 (q : tas σ H fun vs H1 => ∃ u v w, vs = [u, v, w] ∧ D.nx (((σ.set i (some u)).set j (some v)).set l (some w)) H1) : tPar3 i j l tas D σ H := q
theorem r_three {u v w : V} {P : V → V → V → Prop} (q : P u v w) : ∃ x y z, [u, v, w] = [x, y, z] ∧ P x y z := ⟨u, v, w, rfl, q⟩
end
end CP

set_option Elab.async false
set_option linter.all false
set_option maxRecDepth 100000
set_option maxHeartbeats 4000000
set_option autoImplicit false
/-! two cells with the same place -/
namespace CP
open L2 PySem PyProof.Rows
theorem restOf_count : ∀ {o l m : List Str}, restOf l o = some m → ∀ x, l.count x = m.count x + o.count x
  | [], l, m, h, x => by cases h; simp
  | k :: o, l, m, h, x => by
    unfold restOf at h
    split at h
    · rename_i hk
      have ih := restOf_count h x
      rw [List.count_erase] at ih
      rw [List.count_cons]
      by_cases e : k = x
      · subst e
        have := List.count_pos_iff.mpr hk
        simp only [beq_self_eq_true, if_true] at ih ⊢
        omega
      · have e1 : (k == x) = false := beq_eq_false_iff_ne.mpr e
        have e2 : (x == k) = false := beq_eq_false_iff_ne.mpr (Ne.symm e)
        simp only [e1, e2, Bool.false_eq_true, if_false] at ih ⊢
        omega
    · cases h
theorem restOf_some : ∀ {o l : List Str}, (∀ x, o.count x ≤ l.count x) → ∃ m, restOf l o = some m
  | [], l, h => ⟨l, rfl⟩
  | k :: o, l, h => by
    have hk : k ∈ l := List.count_pos_iff.mp (by have := h k; rw [List.count_cons_self] at this; omega)
    unfold restOf
    rw [if_pos hk]
    refine restOf_some fun x => ?_
    have := h x
    rw [List.count_cons] at this
    rw [List.count_erase]
    by_cases e : k = x
    · subst e
      simp only [beq_self_eq_true, if_true] at this ⊢
      omega
    · have e1 : (k == x) = false := beq_eq_false_iff_ne.mpr e
      have e2 : (x == k) = false := beq_eq_false_iff_ne.mpr (Ne.symm e)
      simp only [e1, e2, Bool.false_eq_true, if_false] at this ⊢
      omega
theorem restOf_none {o l : List Str} (h : restOf l o = none) : ∃ x, l.count x < o.count x := by
  refine Classical.byContradiction fun n => ?_
  obtain ⟨m, hm⟩ := restOf_some (o := o) (l := l) fun x => Nat.le_of_not_lt fun z => n ⟨x, z⟩
  rw [h] at hm
  cases hm
theorem shared_count : ∀ (l o : List Str) (x : Str), (sharedGo l o).count x = min (l.count x) (o.count x)
  | [], o, x => by simp [sharedGo]
  | k :: l, o, x => by
    unfold sharedGo
    rw [List.count_cons]
    by_cases hk : k ∈ o
    · rw [if_pos hk, List.count_cons, shared_count l _ x, List.count_erase]
      by_cases e : k = x
      · subst e
        have := List.count_pos_iff.mpr hk
        simp only [beq_self_eq_true, if_true]
        omega
      · have e1 : (k == x) = false := beq_eq_false_iff_ne.mpr e
        have e2 : (x == k) = false := beq_eq_false_iff_ne.mpr (Ne.symm e)
        simp only [e1, e2, Bool.false_eq_true, if_false]
        omega
    · rw [if_neg hk, shared_count l o x]
      by_cases e : k = x
      · subst e
        rw [List.count_eq_zero.mpr hk]
        omega
      · have e1 : (k == x) = false := beq_eq_false_iff_ne.mpr e
        simp only [e1, Bool.false_eq_true, if_false]
        omega
theorem shared_len : ∀ (l o : List Str), (sharedGo l o).length ≤ l.length
  | [], o => Nat.le_refl _
  | k :: l, o => by
    unfold sharedGo
    split
    · rw [List.length_cons, List.length_cons]; have := shared_len l (o.erase k); omega
    · rw [List.length_cons]; have := shared_len l o; omega
theorem shared_rest (l o : List Str) : (∃ m, restOf l (sharedM l o) = some m) ∧ ∃ m, restOf o (sharedM l o) = some m :=
  ⟨restOf_some fun x => by unfold sharedM; rw [shared_count]; omega, restOf_some fun x => by unfold sharedM; rw [shared_count]; omega⟩
/-- neither is ahead of the other -/
theorem ordGo_apart : ∀ {rs f : List Sd} {u v : Sd}, ordGo f rs = .inr (u, v) → aheadB u v = false ∧ aheadB v u = false
  | [], f, u, v, h => by cases h
  | r :: rs, f, u, v, h => by
    unfold ordGo at h
    split at h
    · exact ordGo_apart h
    · split at h
      · rename_i w ws e
        cases h
        have : u ∈ f.filter fun f => !aheadB f r && !aheadB r f := by rw [e]; exact List.mem_cons_self ..
        have := (List.mem_filter.mp this).2
        rw [Bool.and_eq_true, Bool.not_eq_true', Bool.not_eq_true'] at this
        exact this
      · exact ordGo_apart h
/-- where one step divides the other: a letter that stands oftener in the size -/
theorem more_some {l o s : List Str} (h : restOf o (s ++ l) = none) {m : List Str} (h1 : restOf l (sharedM l o) = some []) (h2 : restOf o (sharedM l o) = some m) : ∃ k, moreM s m = some k := by
  obtain ⟨x, hx⟩ := restOf_none h
  have c1 := restOf_count h1 x
  have c2 := restOf_count h2 x
  rw [List.count_append] at hx
  have hm : m.count x < s.count x := by
    rw [List.count_nil] at c1
    omega
  cases e : moreM s m with
  | some k => exact ⟨k, rfl⟩
  | none =>
    have := List.find?_eq_none.mp e x (List.count_pos_iff.mp (by omega))
    rw [decide_eq_true hm] at this
    exact absurd rfl this
theorem shared_swap_count (l o : List Str) (x : Str) : (sharedM l o).count x = (sharedM o l).count x := by
  unfold sharedM
  rw [shared_count, shared_count, Nat.min_comm]
/-- the same with the two exchanged -/
theorem more_some' {l o s : List Str} (h : restOf l (s ++ o) = none) {m : List Str} (h1 : restOf o (sharedM l o) = some []) (h2 : restOf l (sharedM l o) = some m) : ∃ k, moreM s m = some k := by
  obtain ⟨x, hx⟩ := restOf_none h
  have c1 := restOf_count h1 x
  have c2 := restOf_count h2 x
  rw [List.count_append] at hx
  have hm : m.count x < s.count x := by
    rw [List.count_nil] at c1
    omega
  cases e : moreM s m with
  | some k => exact ⟨k, rfl⟩
  | none =>
    have := List.find?_eq_none.mp e x (List.count_pos_iff.mp (by omega))
    rw [decide_eq_true hm] at this
    exact absurd rfl this
theorem more_prop {s m : List Str} {k : Str} (h : moreM s m = some k) : k ∈ s ∧ m.count k < s.count k :=
  ⟨List.mem_of_find?_eq_some h, of_decide_eq_true (by simpa using List.find?_some h)⟩
/-- the value of a letter -/
def atD (v : List (Str × Int)) (k : Str) : Int := (getD v k).getD 0
/-- the letter's value is doubled until the size is greater -/
def grow (one second : List Str) (name : Str) : Nat → List (Str × Int) → List (Str × Int)
  | 0, v => v
  | n + 1, v => if prodF (atD v) one ≤ prodF (atD v) second then grow one second name n (setD v name (atD v name * 2)) else v
def setAll (v : List (Str × Int)) (ks : List Str) (n : Int) : List (Str × Int) := ks.foldl (fun v k => setD v k n) v
def clash2 (rows : List Sd) (vals : List (Str × Int)) (one other : Sd) (second : List Str) : Option (List (Str × Int) × List Int × List Int) :=
  match moreM one.2.1 second with
  | none => none
  | some name => some (grow one.2.1 second name 100 vals, loneM rows one.1 (prodF (atD (grow one.2.1 second name 100 vals)) second), loneM rows other.1 1)
def clashM (rows : List Sd) : Option (List (Str × Int) × List Int × List Int) :=
  match orderM rows with
  | .inl _ => none
  | .inr (one, other) =>
    match restOf one.2.2 (sharedM one.2.2 other.2.2), restOf other.2.2 (sharedM one.2.2 other.2.2) with
    | some first, some second =>
      if first ≠ [] then
        if second ≠ [] then some (setAll (setAll (allTwo (sizesM rows)) first (2 ^ second.length)) second (2 ^ first.length), loneM rows one.1 1, loneM rows other.1 1)
        else clash2 rows (allTwo (sizesM rows)) other one first
      else clash2 rows (allTwo (sizesM rows)) one other second
    | _, _ => none
theorem setAll_keys {v : List (Str × Int)} {n : Int} : ∀ {ks : List Str}, (∀ k ∈ ks, k ∈ v.map (·.1)) → (setAll v ks n).map (·.1) = v.map (·.1) := by
  intro ks
  unfold setAll
  induction ks generalizing v with
  | nil => intro _; rfl
  | cons k ks ih =>
    intro h
    have e := setD_keys (n := n) (h k (List.mem_cons_self ..))
    rw [List.foldl_cons, ih (fun x hx => by rw [e]; exact h x (List.mem_cons_of_mem _ hx)), e]
theorem setAll_succ {v : List (Str × Int)} {ks : List Str} {k : Str} {n : Int} : setAll v (ks ++ [k]) n = setD (setAll v ks n) k n := by
  unfold setAll
  rw [List.foldl_append]
  rfl
theorem foldl_mul {f : Str → Int} : ∀ {l : List Str} {a : Int}, l.foldl (fun a k => a * f k) a = a * prodF f l
  | [], a => by unfold prodF; rw [List.foldl_nil, List.foldl_nil, Int.mul_one]
  | k :: l, a => by
    unfold prodF
    rw [List.foldl_cons, List.foldl_cons, foldl_mul, foldl_mul, Int.one_mul, Int.mul_assoc]
theorem prodF_cons {f : Str → Int} {k : Str} {l : List Str} : prodF f (k :: l) = f k * prodF f l := by
  show (k :: l).foldl (fun a k => a * f k) 1 = _
  rw [List.foldl_cons, foldl_mul, Int.one_mul]
/-- behind i doublings -/
def Grown (szs : List Str) (name : Str) (i : Nat) (v : List (Str × Int)) : Prop := v.map (·.1) = szs ∧ ∀ k ∈ szs, getD v k = some (if k = name then 2 ^ (i + 1) else 2)
theorem grown_zero (szs : List Str) (name : Str) : Grown szs name 0 (allTwo szs) := ⟨allTwo_keys szs, fun k hk => by
  rw [allTwo_get hk]
  split <;> rfl⟩
theorem Grown.succ {szs : List Str} {name : Str} {i : Nat} {v : List (Str × Int)} (h : Grown szs name i v) (hn : name ∈ szs) : Grown szs name (i + 1) (setD v name (atD v name * 2)) := by
  refine ⟨by rw [setD_keys (by rw [h.1]; exact hn)]; exact h.1, fun k hk => ?_⟩
  rw [getD_setD]
  by_cases e : name = k
  · subst e
    rw [if_pos rfl, if_pos rfl]
    unfold atD
    rw [h.2 name hn, if_pos rfl]
    show some ((2 : Int) ^ (i + 1) * 2) = _
    rw [← Int.pow_succ]
  · rw [if_neg e, h.2 k hk, if_neg (Ne.symm e), if_neg (Ne.symm e)]
theorem Grown.at_ {szs : List Str} {name : Str} {i : Nat} {v : List (Str × Int)} (h : Grown szs name i v) {k : Str} (hk : k ∈ szs) : atD v k = 2 ^ (if k = name then i + 1 else 1) := by
  unfold atD
  rw [h.2 k hk]
  split <;> rfl
theorem Grown.prod {szs : List Str} {name : Str} {i : Nat} {v : List (Str × Int)} (h : Grown szs name i v) : ∀ {l : List Str}, (∀ k ∈ l, k ∈ szs) → prodF (atD v) l = 2 ^ (l.length + i * l.count name)
  | [], _ => rfl
  | k :: l, hl => by
    rw [prodF_cons, h.prod fun x hx => hl x (List.mem_cons_of_mem _ hx), h.at_ (hl k (List.mem_cons_self ..)), ← Int.pow_add, List.length_cons, List.count_cons]
    congr 1
    by_cases e : k = name
    · subst e
      rw [if_pos rfl]
      simp only [beq_self_eq_true, if_true, Nat.mul_add]
      omega
    · rw [if_neg e]
      have e1 : (k == name) = false := beq_eq_false_iff_ne.mpr e
      simp only [e1, Bool.false_eq_true, if_false, Nat.add_zero]
      omega
theorem two_le {a b : Nat} (h : a ≤ b) : (2 : Int) ^ a ≤ 2 ^ b := by
  have := Nat.pow_le_pow_right (n := 2) (by decide) h
  exact_mod_cast this
theorem two_lt {a b : Nat} (h : a < b) : (2 : Int) ^ a < 2 ^ b := by
  have := Nat.pow_lt_pow_right (a := 2) (by decide) h
  exact_mod_cast this
theorem Grown.ends {szs : List Str} {name : Str} {i : Nat} {v : List (Str × Int)} (h : Grown szs name i v) {l m : List Str} (hl : ∀ k ∈ l, k ∈ szs) (hm : ∀ k ∈ m, k ∈ szs) (c : m.count name < l.count name) (lm : m.length ≤ 12) (le : prodF (atD v) l ≤ prodF (atD v) m) : i ≤ 12 := by
  rw [h.prod hl, h.prod hm] at le
  refine Classical.byContradiction fun n => ?_
  have : m.length + i * m.count name < l.length + i * l.count name := by
    have : i * (m.count name + 1) ≤ i * l.count name := Nat.mul_le_mul_left _ c
    rw [Nat.mul_add, Nat.mul_one] at this
    omega
  have := two_lt this
  omega
theorem grow_step {one second : List Str} {name : Str} {n : Nat} {v : List (Str × Int)} : grow one second name (n + 1) v = if prodF (atD v) one ≤ prodF (atD v) second then grow one second name n (setD v name (atD v name * 2)) else v := rfl
theorem two_400 {a : Nat} (h : a ≤ 200) : (2 : Int) ^ a < 2 ^ 400 := two_lt (by omega)
theorem Grown.val {szs : List Str} {name k : Str} {i : Nat} {v : List (Str × Int)} (h : Grown szs name i v) (hk : k ∈ szs) (hi : i ≤ 13) : valV (dV v) (Sum.inr k) = some (.int (atD v k)) ∧ 0 ≤ atD v k ∧ atD v k < 2 ^ 400 := by
  refine ⟨?_, ?_, ?_⟩
  · rw [dV_val, h.2 k hk]
    unfold atD
    rw [h.2 k hk]
    rfl
  · rw [h.at_ hk]
    exact Int.le_of_lt (Int.pow_pos (by decide))
  · rw [h.at_ hk]
    exact two_400 (by split <;> omega)
theorem Grown.low {szs : List Str} {name : Str} {i : Nat} {v : List (Str × Int)} (h : Grown szs name i v) {l : List Str} (hl : ∀ k ∈ l, k ∈ szs) (ll : l.length ≤ 12) (hi : i ≤ 13) (j : Nat) : prodF (atD v) (l.take j) < 2 ^ 400 := by
  rw [h.prod fun k hk => hl k (List.mem_of_mem_take hk)]
  refine two_400 ?_
  have c : (l.take j).count name ≤ (l.take j).length := List.count_le_length
  have t : (l.take j).length ≤ 12 := by rw [List.length_take]; omega
  have : i * (l.take j).count name ≤ 13 * 12 := Nat.mul_le_mul hi (by omega)
  omega
theorem grow_last {one second : List Str} {name : Str} {n : Nat} {v : List (Str × Int)} (h : ¬ prodF (atD v) one ≤ prodF (atD v) second) : grow one second name n v = v := by
  cases n with
  | zero => rfl
  | succ n => rw [grow_step, if_neg h]
theorem dV_len {l : List (Str × Int)} {szs : List Str} (h : l.map (·.1) = szs) : (dV l).length = szs.length := by
  rw [← h, List.length_map]
  unfold dV
  rw [List.length_map]
/-- the cell at a place, side by side from the last one -/
def foundGo (f : Str → Int) : List Sd → List (Str × Int) × Int → List (Str × Int) × Int
  | [], a => a
  | r :: fs, a => foundGo f fs (setD a.1 r.1 (min (a.2 / prodF f r.2.2) (prodF f r.2.1 - 1)), a.2 - min (a.2 / prodF f r.2.2) (prodF f r.2.1 - 1) * prodF f r.2.2)
def foundM (rows fs : List Sd) (f : Str → Int) (n : Int) : Option (List Int) :=
  if (foundGo f fs.reverse ([], n)).2 = 0 then some (rows.map fun r => (getD (foundGo f fs.reverse ([], n)).1 r.1).getD 0) else none
theorem prodF_le {f : Str → Int} : ∀ {l : List Str}, (∀ k ∈ l, 1 ≤ f k ∧ f k < 2 ^ 10) → 1 ≤ prodF f l ∧ prodF f l ≤ 2 ^ (10 * l.length)
  | [], _ => ⟨Int.le_refl 1, Int.le_refl 1⟩
  | k :: l, h => by
    obtain ⟨a, b⟩ := h k (List.mem_cons_self ..)
    obtain ⟨c, d⟩ := prodF_le (l := l) fun x hx => h x (List.mem_cons_of_mem _ hx)
    rw [prodF_cons, List.length_cons, Nat.mul_add, Nat.mul_one, Int.pow_add, Int.mul_comm]
    refine ⟨?_, Int.mul_le_mul d (by omega) (by omega) (Int.le_of_lt (Int.pow_pos (by decide)))⟩
    have := Int.mul_le_mul c a (by decide) (by omega)
    rwa [Int.mul_one] at this
/-! what is answered, as data -/
def OwnAt (rows : List Sd) (v : V) (H : Hp) : Prop := match orderM rows with
  | .inl fs => ∃ p, v = .ref p ∧ H p = some (.lst (strL (fs.map (·.1))))
  | .inr _ => v = .non
def ClashAt (rows : List Sd) (v : V) (H : Hp) : Prop := match clashM rows with
  | some (kv, c1, c2) => (kv.map (·.1)).Nodup ∧ ∃ t d x y, v = .ref t ∧ H t = some (.tup [.ref d, .ref x, .ref y]) ∧ H d = some (.dK (dV kv)) ∧ H x = some (.lst (c1.map V.int)) ∧ H y = some (.lst (c2.map V.int))
  | none => v = .non
def HoleAt (rows fs : List Sd) (v : V) (H : Hp) : Prop := match holeM (sizesM rows) fs with
  | some (kv, n) => (kv.map (·.1)).Nodup ∧ ∃ t d, v = .ref t ∧ H t = some (.tup [.ref d, .int n]) ∧ H d = some (.dK (dV kv))
  | none => v = .non
def CellAt (rows fs : List Sd) (f : Str → Int) (n : Int) (v : V) (H : Hp) : Prop := match foundM rows fs f n with
  | some c => ∃ p, v = .ref p ∧ H p = some (.lst (c.map V.int))
  | none => v = .non
end CP

set_option Elab.async false
set_option linter.all false
set_option maxRecDepth 100000
set_option maxHeartbeats 4000000
set_option autoImplicit false
/-! dicts that are walked: locked for that long -/
namespace CP
open L2 PySem PyProof.Rows
section
variable {K : PySem.W.Frag} {σ : L2.St} {H : Hp} {Q : VK} {d : Addr} {kvs : List (Key × V)} {t td : TE} {od : Obj} {z : Str} {v : V}
theorem r_lockE (h : H d = some (.dK kvs)) (q : ∀ od H1, H1 d = some (.frz od (.dK kvs)) → (∀ b o, b ≠ d → H b = some o → H1 b = some o) → (∀ H', Same H1 H' → Same H (upd H' d (.dK kvs))) → t σ H1 fun v H' => H' d = some (.frz od (.dK kvs)) ∧ Q v (upd H' d (.dK kvs))) : tLockE t σ H Q :=
  ⟨d, _, h, by trivial, fun od => q od _ upd_same (fun b o ne e => by rw [upd_ne ne]; exact e) fun H' s b o e => by
    by_cases ne : b = d
    · subst ne
      rw [h] at e
      rw [upd_same, e]
    · rw [upd_ne ne]
      exact s b o (by rw [upd_ne ne]; exact e)⟩
theorem r_iKeys {R : It → Hp → Prop} (q : td σ H fun x H1 => ∃ d o, x = .ref d ∧ ((∃ kvs, H1 d = some (.frz o (.dK kvs)) ∧ R (Itk d o kvs) H1) ∨ ∃ kvs, H1 d = some (.frz o (.dT kvs)) ∧ R (Itkt d o kvs) H1)) : iKeys td σ H R := q
theorem r_dgetF {P : V → Prop} (h : H d = some (.frz od (.dK kvs))) (e : valV kvs (Sum.inr z) = some v) (q : P v) : ∃ a v, V.ref d = .ref a ∧ DGet H a (.str z) (some v) ∧ P v :=
  ⟨d, v, rfl, .inl ⟨kvs, Sum.inr z, .inr ⟨od, h⟩, rfl, e.symm⟩, q⟩
theorem tk_frz (h : H d = some (.dK kvs)) : TK K H (.ref d) "dict" := tk_dK h
end
section
variable {β : Type} {a : Addr} {od : Obj} {kvs : List (Key × V)} {g : TG} {tt : TT} {te : TE} {vs : List Nat} {σ : L2.St} {H1 : Hp} {D : Addr} {Qd : Hp → Prop}
theorem lc_keys (R : Hp → V → β → Prop) (ys : List (Option β)) (hD : H1 D = none) (ha : H1 a = some (.frz od (.dK kvs))) (hl : kvs.length = ys.length) (hz : ys.length < sizeLine) (mono : ∀ H H' v b, Same H H' → R H v b → R H' v b)
    (hs : ∀ (i : Nat) (k : Key) (v : V) (o : Option β) (H : Hp), kvs[i]? = some (k, v) → ys[i]? = some o → Same H1 H → (∃ acc, H D = some (.lst acc)) → Turn g tt te vs σ R D H (kV k) o)
    (hd : ∀ H acc, Same H1 H → H D = some (.lst acc) → Paired (R H) acc (ys.filterMap id) → Qd H) :
    ∃ W : Nat → Nat → Hp → Prop, (∃ m, W 0 m (upd H1 D (.lst []))) ∧ ∀ i m H, W i m H →
      ((Itk a od kvs).stop i H ∧ Qd H) ∨ ((Itk a od kvs).go i H ∧ ∃ Nx : Hp → Prop, (∀ H', Nx H' → ∃ m', m' < m ∧ W (i + 1) m' H') ∧ ∀ x H', (Itk a od kvs).yld i H x H' → g x (wipe σ vs) H' fun σ2 H2 => wipe σ2 vs = wipe σ vs ∧ tt σ2 H2 fun b H3 =>
        if b = true then te σ2 H3 fun y H4 => ∃ acc, H4 D = some (.lst acc) ∧ acc.length < sizeLine ∧ Nx (upd H4 D (.lst (acc ++ [y]))) else Nx H3) := by
  refine ⟨fun i m H => m = ys.length - i ∧ i ≤ ys.length ∧ Acc R H1 D ys i H, ⟨ys.length, by simp, Nat.zero_le _, acc_zero hD⟩, ?_⟩
  rintro i m H ⟨rfl, hi, p⟩
  have q := CP.Same.to p.1 ha
  by_cases lt : i < ys.length
  · refine .inr ⟨⟨q, by omega⟩, Acc R H1 D ys (i + 1), fun H' p' => ⟨ys.length - (i + 1), by omega, rfl, lt, p'⟩, fun x H' y => ?_⟩
    obtain ⟨rfl, k, v, hk, rfl⟩ := y
    exact turn_of mono hD hz p (List.getElem?_eq_getElem lt) (hs i k v _ _ hk (List.getElem?_eq_getElem lt) p.1 (p.2.imp fun _ z => z.1))
  · have e : i = ys.length := by omega
    subst e
    obtain ⟨s, acc, e, pr⟩ := acc_end mono p
    exact .inl ⟨⟨q, by omega⟩, hd H acc s e pr⟩
theorem lc_keysN (hD : H1 D = none) (ha : H1 a = some (.frz od (.dK kvs))) (hz : kvs.length < sizeLine)
    (hs : ∀ (i : Nat) (k : Key) (v : V) (H : Hp), kvs[i]? = some (k, v) → Same H1 H → Turn (β := V) g tt te vs σ (fun _ x b => x = b) D H (kV k) none) (hd : ∀ H, Same H1 H → H D = some (.lst []) → Qd H) :
    ∃ W : Nat → Nat → Hp → Prop, (∃ m, W 0 m (upd H1 D (.lst []))) ∧ ∀ i m H, W i m H →
      ((Itk a od kvs).stop i H ∧ Qd H) ∨ ((Itk a od kvs).go i H ∧ ∃ Nx : Hp → Prop, (∀ H', Nx H' → ∃ m', m' < m ∧ W (i + 1) m' H') ∧ ∀ x H', (Itk a od kvs).yld i H x H' → g x (wipe σ vs) H' fun σ2 H2 => wipe σ2 vs = wipe σ vs ∧ tt σ2 H2 fun b H3 =>
        if b = true then te σ2 H3 fun y H4 => ∃ acc, H4 D = some (.lst acc) ∧ acc.length < sizeLine ∧ Nx (upd H4 D (.lst (acc ++ [y]))) else Nx H3) := by
  refine lc_keys (β := V) (fun _ x b => x = b) (kvs.map fun _ => none) hD ha (by rw [List.length_map]) (by rw [List.length_map]; exact hz) (fun _ _ _ _ _ z => z) (fun i k v o H hk ho s1 _ => ?_) fun H acc s1 hacc pp => ?_
  · have e : o = none := by
      rw [List.getElem?_map, hk] at ho
      exact (Option.some.inj ho).symm
    subst e
    exact hs i k v H hk s1
  · have e : acc = [] := by
      rw [pd_eq pp]
      clear pp hs hz ha
      induction kvs with
      | nil => rfl
      | cons _ xs ih => exact ih
    subst e
    exact hd H s1 hacc
end
section
variable {K : PySem.W.Frag} {σ : L2.St} {H : Hp} {Q : VK} {te : TE} {a : Addr} {xs : List V}
theorem r_revL (q : te σ H fun x H1 => ∃ a xs, x = .ref a ∧ SqL K H1 a xs ∧ ∀ p, H1 p = none → Q (.ref p) (upd H1 p (.lst xs.reverse))) : tRevL K te σ H Q := q
theorem r_rev (h : SqL K H a xs) (q : ∀ p H', H p = none → Same H H' → H' p = some (.lst xs.reverse) → Q (.ref p) H') : ∃ b ys, V.ref a = .ref b ∧ SqL K H b ys ∧ ∀ p, H p = none → Q (.ref p) (upd H p (.lst ys.reverse)) :=
  ⟨a, xs, rfl, h, fun p hp => q p _ hp (same_new hp) upd_same⟩
end
theorem getD_mem : ∀ {l : List (Str × Int)} {p : Str × Int}, (l.map (·.1)).Nodup → p ∈ l → getD l p.1 = some p.2
  | a :: l, p, nd, h => by
    unfold getD
    rcases List.mem_cons.mp h with e | h
    · subst e; rw [if_pos rfl]
    · have ne : a.1 ≠ p.1 := fun e => (List.pairwise_cons.mp nd).1 p.1 (List.mem_map.mpr ⟨p, h, rfl⟩) e
      rw [if_neg ne]
      exact getD_mem (List.pairwise_cons.mp nd).2 h
theorem dV_get {l : List (Str × Int)} {i : Nat} {k : Key} {v : V} (h : (dV l)[i]? = some (k, v)) : ∃ p, p ∈ l ∧ k = Sum.inr p.1 ∧ v = .int p.2 := by
  unfold dV at h
  rw [List.getElem?_map] at h
  cases e : l[i]? with
  | none => rw [e] at h; cases h
  | some p =>
    rw [e] at h
    cases h
    exact ⟨p, List.mem_of_getElem? e, rfl, rfl⟩
theorem setD_nd {l : List (Str × Int)} {k : Str} {n : Int} (nd : (l.map (·.1)).Nodup) : ((setD l k n).map (·.1)).Nodup := by
  by_cases h : k ∈ l.map (·.1)
  · rw [setD_keys h]; exact nd
  · rw [setD_new h, List.map_append, List.nodup_append]
    exact ⟨nd, by simp, fun a ha b hb e => h (by have eb : b = k := List.mem_singleton.mp hb; rw [← eb, ← e]; exact ha)⟩
end CP

set_option Elab.async false
set_option linter.all false
set_option maxRecDepth 100000
set_option maxHeartbeats 4000000
set_option autoImplicit false
/-! heaps in which one object or two may change; what the law draws -/
namespace CP
open L2 PySem PyProof.Rows
theorem SB.free' {p c : Addr} {H H' : Hp} {o : HO} (s : SB p H H') (hp : H' p = some o) (h : H' c = none) : H c = none := by
  cases e : H c with
  | none => rfl
  | some u =>
    have ne : c ≠ p := fun z => by rw [z, hp] at h; cases h
    rw [s c u ne e] at h
    cases h
theorem Same.sb' {p : Addr} {H H' : Hp} (s : Same H H') : SB p H H' := fun b o _ e => s b o e
theorem SB.trans' {p : Addr} {H H1 H2 : Hp} (s : SB p H H1) (t : SB p H1 H2) : SB p H H2 := fun b o ne e => t b o ne (s b o ne e)
/-- new at q, then changed at q -/
theorem SB.fresh {p q : Addr} {H H1 H2 : Hp} (s : SB p H H1) (hq : H q = none) (t : SB q H1 H2) : SB p H H2 := fun b o ne e => t b o (fun z => by rw [z, hq] at e; cases e) (s b o ne e)
/-- the heap without two objects -/
def hid2 (p q : Addr) (H : Hp) : Hp := fun b => if b = p ∨ b = q then none else H b
theorem hid2_at {p q b : Addr} {H : Hp} {o : HO} (h : H b = some o) (n1 : b ≠ p) (n2 : b ≠ q) : hid2 p q H b = some o := by
  unfold hid2
  rw [if_neg (fun z => z.elim n1 n2)]
  exact h
theorem hid2_same {p q : Addr} {H : Hp} : Same (hid2 p q H) H := fun b o h => by
  unfold hid2 at h
  split at h
  · cases h
  · exact h
theorem hid2_p {p q : Addr} {H H' : Hp} (s : SB p H H') : Same (hid2 p q H) (hid2 p q H') := fun b o h => by
  unfold hid2 at h ⊢
  split at h
  · cases h
  · rename_i n
    rw [if_neg n]
    exact s b o (fun z => n (.inl z)) h
theorem hid2_q {p q : Addr} {H H' : Hp} (s : SB q H H') : Same (hid2 p q H) (hid2 p q H') := fun b o h => by
  unfold hid2 at h ⊢
  split at h
  · cases h
  · rename_i n
    rw [if_neg n]
    exact s b o (fun z => n (.inr z)) h
theorem hid2_s {p q : Addr} {H H' : Hp} (s : Same H H') : Same (hid2 p q H) (hid2 p q H') := hid2_p (Same.sb' s)
/-- the letters that the law uses for sizes, for names -/
def sizeW : List Str := ["m", "n", "n", "mn", "p", "abc", "height", "nm"]
def nameW : List Str := ["r", "c", "z", "kk", "a", "page", "columnes", "abcdefghij"]
theorem sizeW_let : ∀ x ∈ sizeW, letB x = true := by decide +kernel
theorem nameW_let : ∀ x ∈ nameW, letB x = true := by decide +kernel
theorem nameW_nd : nameW.Nodup := by decide +kernel
theorem sizeW_out : ∀ x ∈ sizeW, x ∉ nameW := by decide +kernel
theorem ins_perm {α : Type} (l : List α) (i : Nat) (x : α) : (l.take i ++ [x] ++ l.drop i).Perm (x :: l) := by
  have h : (l.take i ++ [x] ++ l.drop i).Perm (x :: (l.take i ++ l.drop i)) := by
    rw [List.append_assoc]
    exact List.perm_middle
  rw [List.take_append_drop] at h
  exact h
/-- a list of values whose items are texts -/
theorem strs_of_perm {l : List Str} {ys : List V} (h : ys.Perm (strL l)) : ∃ m, ys = strL m ∧ m.Perm l := by
  have all : ∀ y ∈ ys, ∃ z, y = V.str z := fun y hy => by
    obtain ⟨z, _, rfl⟩ := List.mem_map.mp (h.mem_iff.mp hy)
    exact ⟨z, rfl⟩
  let f : V → Str := fun v => match v with | .str z => z | _ => Str.empty
  have e1 : ys = strL (ys.map f) := by
    clear h
    induction ys with
    | nil => rfl
    | cons y ys ih =>
      obtain ⟨z, rfl⟩ := all y (List.mem_cons_self ..)
      have := ih fun x hx => all x (List.mem_cons_of_mem _ hx)
      show _ :: _ = _ :: strL _
      rw [← this]
  refine ⟨ys.map f, e1, ?_⟩
  have e2 : (strL l).map f = l := by
    unfold strL
    rw [List.map_map]
    exact List.map_id l
  have := h.map f
  rwa [e2] at this
theorem cut_strs (l : List Str) (n : Nat) : cutV (strL l) none (some (n : Int)) = strL (l.take n) := by
  unfold cutV
  rw [HT.sIx_none, HT.sIx_nat, List.drop_zero, Nat.sub_zero, strL_len]
  unfold strL
  rw [← List.map_take]
  congr 1
  by_cases h : n ≤ l.length
  · rw [Nat.min_eq_left h]
  · rw [Nat.min_eq_right (by omega), List.take_length, List.take_of_length_le (by omega)]
theorem cut_tail (xs : List V) (n : Nat) : cutV xs (some (n : Int)) none = xs.drop n := by
  unfold cutV
  rw [HT.sIx_none, HT.sIx_nat]
  by_cases h : n ≤ xs.length
  · rw [Nat.min_eq_left h, List.take_of_length_le (by rw [List.length_drop]; omega)]
  · rw [Nat.min_eq_right (by omega), List.drop_length, List.drop_of_length_le (by omega), List.take_nil]
theorem getItem_size : ∀ x ∈ ([.int 2, .int 2, .int 3] : List V), x = .int 2 ∨ x = .int 3 := by
  intro x hx
  simp only [List.mem_cons, List.not_mem_nil, or_false] at hx
  rcases hx with h | h | h
  · exact .inl h
  · exact .inl h
  · exact .inr h
/-- rows as the law draws them -/
structure Drawn (rows : List Sd) : Prop where
  name : ∀ r ∈ rows, r.1 ∈ nameW
  size : ∀ r ∈ rows, (∀ w ∈ r.2.1, w ∈ sizeW) ∧ r.2.1.length ≤ 3
  step : ∀ r ∈ rows, (∀ w ∈ r.2.2, w ∈ sizeW) ∧ r.2.2.length ≤ 6
theorem Drawn.rows {rows : List Sd} (h : Drawn rows) (ne : rows ≠ []) (nd : (rows.map (·.1)).Nodup) (few : rows.length ≤ 20) : Rows rows := by
  refine ⟨ne, few, fun r hr => nameW_let _ (h.name r hr), fun r hr => ⟨fun x hx => sizeW_let x ((h.size r hr).1 x hx), by have := (h.size r hr).2; omega⟩, fun r hr => ⟨fun x hx => sizeW_let x ((h.step r hr).1 x hx), by have := (h.step r hr).2; omega⟩, nd, fun r hr x hx m => ?_⟩
  obtain ⟨r2, h2, e⟩ := List.mem_map.mp m
  have xs : x ∈ sizeW := by
    rcases List.mem_append.mp hx with z | z
    · exact (h.size r hr).1 x z
    · exact (h.step r hr).1 x z
  exact sizeW_out x xs (by rw [← e]; exact h.name r2 h2)
/-- all but two stand -/
def SB2 (p q : Addr) (H H' : Hp) : Prop := ∀ b o, b ≠ p → b ≠ q → H b = some o → H' b = some o
theorem SB2.refl {p q : Addr} {H : Hp} : SB2 p q H H := fun _ _ _ _ e => e
theorem SB2.p {p q : Addr} {H H1 H2 : Hp} (s : SB2 p q H H1) (t : SB p H1 H2) : SB2 p q H H2 := fun b o n1 n2 e => t b o n1 (s b o n1 n2 e)
theorem SB2.q {p q : Addr} {H H1 H2 : Hp} (s : SB2 p q H H1) (t : SB q H1 H2) : SB2 p q H H2 := fun b o n1 n2 e => t b o n2 (s b o n1 n2 e)
theorem SideAt.at2 {p c : Addr} {H : Hp} {t a b : Addr} {r : Sd} (h1 : H t = some (.tup [.str r.1, .ref a, .ref b])) (h2 : H a = some (.lst (strL r.2.1))) (h3 : H b = some (.lst (strL r.2.2)))
    (n1 : t ≠ p) (n2 : t ≠ c) (n3 : a ≠ p) (n4 : a ≠ c) (n5 : b ≠ p) (n6 : b ≠ c) : SideAt (hid2 p c H) (.ref t) r := ⟨t, a, b, rfl, hid2_at h1 n1 n2, hid2_at h2 n3 n4, hid2_at h3 n5 n6⟩
theorem Drawn.add {rows : List Sd} (h : Drawn rows) {w : Str} {l m : List Str} (hw : w ∈ nameW) (hl : ∀ x ∈ l, x ∈ sizeW) (ll : l.length ≤ 3) (hm : ∀ x ∈ m, x ∈ sizeW) (ml : m.length ≤ 6) : Drawn (rows ++ [(w, l, m)]) := by
  have all : ∀ r ∈ rows ++ [(w, l, m)], r ∈ rows ∨ r = (w, l, m) := fun r hr => (List.mem_append.mp hr).imp id List.mem_singleton.mp
  refine ⟨fun r hr => ?_, fun r hr => ?_, fun r hr => ?_⟩
  · rcases all r hr with z | rfl
    · exact h.name r z
    · exact hw
  · rcases all r hr with z | rfl
    · exact h.size r z
    · exact ⟨hl, ll⟩
  · rcases all r hr with z | rfl
    · exact h.step r z
    · exact ⟨hm, ml⟩
theorem hid2_pp {p c : Addr} {H : Hp} : Same (hid2 p c H) (hid2 p p H) := fun b o h => by
  unfold hid2 at h ⊢
  split at h
  · cases h
  · rename_i n
    rw [if_neg (fun z => n (.inl (z.elim id id)))]
    exact h
section
variable {K : PySem.W.Frag} {a : Addr} {xs : List V} {g : TG} {tb : TS} {D : Ends} {σ : L2.St} {H : Hp} {ta : TA}
theorem r_iEnum {R : It → Hp → Prop} (q : ta σ H fun vs H1 => ∃ a xs, vs = [.ref a] ∧ SqL K H1 a xs ∧ R (Ite K a) H1) : iEnum K ta σ H R := q
theorem for_enum (Pv : Nat → L2.St → Hp → Prop) (start : Pv 0 σ H) (stay : ∀ i σ H, i ≤ xs.length → Pv i σ H → SqL K H a xs)
    (step : ∀ i x σ H T H', xs[i]? = some x → Pv i σ H → Same H H' → H' T = some (.tup [.int (i : Nat), x]) → g (.ref T) σ H' fun σ2 H2 => tb { D with nx := Pv (i + 1), ct := Pv (i + 1), bk := D.nx } σ2 H2) (fin : ∀ σ H, Pv xs.length σ H → D.nx σ H) :
    ∃ W : Nat → Nat → L2.St → Hp → Prop, (∃ m, W 0 m σ H) ∧ ∀ i m σ H, W i m σ H →
      ((Ite K a).stop i H ∧ D.nx σ H) ∨ ((Ite K a).go i H ∧ ∃ N : L2.St → Hp → Prop, (∀ σ' H', N σ' H' → ∃ m', m' < m ∧ W (i + 1) m' σ' H') ∧ ∀ x H', (Ite K a).yld i H x H' → g x σ H' fun σ2 H2 => tb { D with nx := N, ct := N, bk := D.nx } σ2 H2) := by
  refine ⟨fun i m σ H => m = xs.length - i ∧ i ≤ xs.length ∧ Pv i σ H, ⟨_, rfl, Nat.zero_le _, start⟩, fun i m σ H ⟨em, hi, p⟩ => ?_⟩
  subst em
  have q := stay i σ H hi p
  rcases Nat.lt_or_ge i xs.length with lt | ge
  · refine .inr ⟨⟨xs, xs[i], q, List.getElem?_eq_getElem lt⟩, Pv (i + 1), fun σ' H' p' => ⟨xs.length - (i + 1), by omega, rfl, lt, p'⟩, fun x H' y => ?_⟩
    obtain ⟨T, z, rfl, T0, rfl, hx⟩ := y
    exact step i z σ H T _ (hx xs q) p (same_new T0) upd_same
  · have e : i = xs.length := by omega
    subst e
    exact .inl ⟨⟨xs, q, (Nat.le_refl _ : xs.length ≤ xs.length)⟩, fin σ H p⟩
end
/-- the step of the one times its size divides the step of the other -/
def Fits (r s : Sd) : Prop := ∀ w, (r.2.1 ++ r.2.2).count w ≤ s.2.2.count w
def Comp (r s : Sd) : Prop := Fits r s ∨ Fits s r
theorem fits_ahead {r s : Sd} (h : Fits r s) : aheadB (srow r) (srow s) = true := by
  unfold aheadB
  obtain ⟨m, hm⟩ := restOf_some (o := (srow r).2.1 ++ (srow r).2.2) (l := (srow s).2.2) fun w => by
    show (srt r.2.1 ++ srt r.2.2).count w ≤ (srt s.2.2).count w
    have := h w
    rw [List.count_append, (srt_perm r.2.1).count_eq, (srt_perm r.2.2).count_eq, (srt_perm s.2.2).count_eq, ← List.count_append]
    exact this
  rw [hm]
  rfl
theorem ordGo_ok : ∀ {rs f : List Sd}, (∀ x ∈ f, ∀ r ∈ rs, r.2.1 ≠ [] → aheadB x r = true ∨ aheadB r x = true) → rs.Pairwise (fun r s => r.2.1 ≠ [] → s.2.1 ≠ [] → aheadB r s = true ∨ aheadB s r = true) → ∃ fs, ordGo f rs = .inl fs
  | [], f, _, _ => ⟨f, rfl⟩
  | r :: rs, f, h, p => by
    unfold ordGo
    obtain ⟨p1, p2⟩ := List.pairwise_cons.mp p
    by_cases e : r.2.1 = []
    · rw [if_pos e]
      exact ordGo_ok (fun x hx s hs => h x hx s (List.mem_cons_of_mem _ hs)) p2
    · rw [if_neg e]
      have fe : f.filter (fun f => !aheadB f r && !aheadB r f) = [] := List.filter_eq_nil_iff.mpr fun x hx z => by
        rcases h x hx r (List.mem_cons_self ..) e with k | k <;> rw [k] at z <;> simp at z
      rw [fe]
      refine ordGo_ok (fun x hx s hs ne => ?_) p2
      rcases List.mem_append.mp hx with hx | hx
      · rcases List.mem_append.mp hx with hx | hx
        · exact h x (List.mem_of_mem_take hx) s (List.mem_cons_of_mem _ hs) ne
        · rw [List.mem_singleton.mp hx]
          exact p1 s hs e ne
      · exact h x (List.mem_of_mem_drop hx) s (List.mem_cons_of_mem _ hs) ne
theorem order_ok {rows : List Sd} (h : (rows.filter fun r => decide (r.2.1 ≠ [])).Pairwise Comp) : ∃ fs, orderM (rows.map srow) = .inl fs := by
  refine ordGo_ok (by simp) ?_
  have : rows.Pairwise fun r s => r.2.1 ≠ [] → s.2.1 ≠ [] → Comp r s := by
    rw [List.pairwise_filter] at h
    exact h.imp fun {a b} k n1 n2 => k (decide_eq_true n1) (decide_eq_true n2)
  refine List.pairwise_map.mpr (this.imp fun {r s} k n1 n2 => ?_)
  have ne : ∀ {l : List Str}, srt l ≠ [] → l ≠ [] := fun z e => z (by rw [e]; exact List.eq_nil_of_length_eq_zero (srt_len []))
  rcases k (ne n1) (ne n2) with z | z
  · exact .inl (fits_ahead z)
  · exact .inr (fits_ahead z)
theorem r_makeK {C : Addr} {n m : Nat} {sp : Sp} {gV : List V → List V → List V} {E : XK} {t tk : TA} {σ : L2.St} {H : Hp} {Q : VK} (q : t σ H fun vs H1 => tk σ H1 fun zs H2 => vs.length = n ∧ zs.length = m ∧ ∀ x dx, H2 x = none → H2 dx = none → dx ≠ x →
  sp (gV (.ref x :: vs) zs) (upd (upd H2 dx (.own x)) x (.ins C dx [])) (fun v H3 => v = .non ∧ Q (.ref x) H3) E) : tMakeK C n m sp gV E t tk σ H Q := q
end CP
namespace CP
open L2 PySem PyProof.Rows
theorem OwnAt.mono {rows : List Sd} {v : V} {H H' : Hp} (h : OwnAt rows v H) (s : Same H H') : OwnAt rows v H' := by
  unfold OwnAt at *
  split at h
  · rename_i fs e
    obtain ⟨p, rfl, hp⟩ := h
    exact ⟨p, rfl, CP.Same.to s hp⟩
  · rename_i z e
    exact h
theorem ClashAt.mono {rows : List Sd} {v : V} {H H' : Hp} (h : ClashAt rows v H) (s : Same H H') : ClashAt rows v H' := by
  unfold ClashAt at *
  split at h
  · rename_i kv c1 c2 e
    obtain ⟨nd, t, d, x, y, rfl, h1, h2, h3, h4⟩ := h
    exact ⟨nd, t, d, x, y, rfl, CP.Same.to s h1, CP.Same.to s h2, CP.Same.to s h3, CP.Same.to s h4⟩
  · rename_i e
    exact h
theorem HoleAt.mono {rows fs : List Sd} {v : V} {H H' : Hp} (h : HoleAt rows fs v H) (s : Same H H') : HoleAt rows fs v H' := by
  unfold HoleAt at *
  split at h
  · rename_i kv n e
    obtain ⟨nd, t, d, rfl, h1, h2⟩ := h
    exact ⟨nd, t, d, rfl, CP.Same.to s h1, CP.Same.to s h2⟩
  · rename_i e
    exact h
theorem CellAt.mono {rows fs : List Sd} {f : Str → Int} {n : Int} {v : V} {H H' : Hp} (h : CellAt rows fs f n v H) (s : Same H H') : CellAt rows fs f n v H' := by
  unfold CellAt at *
  split at h
  · rename_i c e
    obtain ⟨p, rfl, h1⟩ := h
    exact ⟨p, rfl, CP.Same.to s h1⟩
  · rename_i e
    exact h
section
variable {K : PySem.W.Frag} {H : Hp} {Q : VK} {v v' : V} {rows fs : List Sd}
theorem non_ne (q : Q (.bl false) H) : rNeX K .non .non H Q := .inl (r_ne rfl (by rw [decide_eq_true rfl]; exact q))
theorem own_ne (hR : Rows rows) (h1 : OwnAt rows v H) (h2 : OwnAt rows v' H) (q : Q (.bl false) H) : rNeX K v v' H Q := by
  unfold OwnAt at *
  split at h1
  · rename_i fs e
    rw [e] at h2
    obtain ⟨p, rfl, hp⟩ := h1
    obtain ⟨p2, rfl, hp2⟩ := h2
    have lay : ∀ x ∈ fs.map (·.1), (PyData.str x).canLay0 = true := fun x hx => by
      obtain ⟨r, hr, rfl⟩ := List.mem_map.mp hx
      exact let_lay (hR.name r ((order_inl e).1 r hr))
    exact strs_neX (.of hp) (.of hp2) lay lay (by rw [decide_eq_true rfl]; exact q)
  · rename_i z e
    rw [e] at h2
    cases h1
    cases h2
    exact non_ne q
theorem dV_sq {n : Nat} {a b : Addr} {kv : List (Str × Int)} (nd : (kv.map (·.1)).Nodup) (h1 : H a = some (.dK (dV kv))) (h2 : H b = some (.dK (dV kv))) : SqV K H (n + 2) (.ref a) (.ref b) := by
  refine .inr (.inr (.inr (.inr ⟨a, b, _, _, rfl, rfl, h1, h2, rfl, fun p hp => ?_⟩)))
  unfold dV at hp
  obtain ⟨u, hu, rfl⟩ := List.mem_map.mp hp
  exact ⟨.int u.2, by show valV (dV kv) (Sum.inr u.1) = _; rw [dV_val, getD_mem nd hu]; rfl, .inl ⟨rfl, rfl⟩⟩
theorem ints_sq {n : Nat} {a b : Addr} {l : List Int} (h1 : H a = some (.lst (l.map V.int))) (h2 : H b = some (.lst (l.map V.int))) : SqV K H (n + 2) (.ref a) (.ref b) := by
  refine .inr (.inr (.inl ⟨a, b, _, _, rfl, rfl, .of h1, .of h2, ?_⟩))
  clear h1 h2
  induction l with
  | nil => exact .nil
  | cons x l ih => exact .cons (.inl ⟨rfl, rfl⟩) ih
theorem clash_ne (h1 : ClashAt rows v H) (h2 : ClashAt rows v' H) (q : Q (.bl false) H) : rNeX K v v' H Q := by
  unfold ClashAt at *
  cases e : clashM rows with
  | none =>
    rw [e] at h1 h2
    cases h1
    cases h2
    exact non_ne q
  | some z =>
    obtain ⟨kv, c1, c2⟩ := z
    rw [e] at h1 h2
    obtain ⟨nd, t, d, x, y, rfl, a1, a2, a3, a4⟩ := h1
    obtain ⟨_, t2, d2, x2, y2, rfl, b1, b2, b3, b4⟩ := h2
    exact .inr (.inr ⟨3, t, t2, _, _, by decide, rfl, rfl, .inr ⟨.of a1, .of b1⟩, .cons (dV_sq nd a2 b2) (.cons (ints_sq a3 b3) (.cons (ints_sq a4 b4) .nil)), q⟩)
theorem hole_ne (h1 : HoleAt rows fs v H) (h2 : HoleAt rows fs v' H) (q : Q (.bl false) H) : rNeX K v v' H Q := by
  unfold HoleAt at *
  cases e : holeM (sizesM rows) fs with
  | none =>
    rw [e] at h1 h2
    cases h1
    cases h2
    exact non_ne q
  | some z =>
    obtain ⟨kv, n⟩ := z
    rw [e] at h1 h2
    obtain ⟨nd, t, d, rfl, a1, a2⟩ := h1
    obtain ⟨_, t2, d2, rfl, b1, b2⟩ := h2
    exact .inr (.inr ⟨3, t, t2, _, _, by decide, rfl, rfl, .inr ⟨.of a1, .of b1⟩, .cons (dV_sq nd a2 b2) (.cons (.inl ⟨rfl, rfl⟩) .nil), q⟩)
theorem cell_ne {f : Str → Int} {n : Int} (h1 : CellAt rows fs f n v H) (h2 : CellAt rows fs f n v' H) (q : Q (.bl false) H) : rNeX K v v' H Q := by
  unfold CellAt at *
  cases e : foundM rows fs f n with
  | none =>
    rw [e] at h1 h2
    cases h1
    cases h2
    exact non_ne q
  | some c =>
    rw [e] at h1 h2
    obtain ⟨p, rfl, a1⟩ := h1
    obtain ⟨p2, rfl, b1⟩ := h2
    refine .inr (.inr ⟨3, p, p2, _, _, by decide, rfl, rfl, .inl ⟨.of a1, .of b1⟩, ?_, q⟩)
    clear a1 b1 e
    induction c with
    | nil => exact .nil
    | cons x l ih => exact .cons (.inl ⟨rfl, rfl⟩) ih
end
end CP

set_option Elab.async false
set_option linter.all false
set_option maxRecDepth 100000
set_option maxHeartbeats 4000000
set_option autoImplicit false
/-! sides that stand in an order: their cells have places of their own -/
namespace CP
open L2 PySem PyProof.Rows
theorem fits_of_ahead {r s : Sd} (h : aheadB r s = true) : Fits r s := by
  unfold aheadB at h
  obtain ⟨m, hm⟩ := Option.isSome_iff_exists.mp h
  intro w
  have := restOf_count hm w
  omega
theorem ahead_of_fits {r s : Sd} (h : Fits r s) : aheadB r s = true := by
  unfold aheadB
  obtain ⟨m, hm⟩ := restOf_some (o := r.2.1 ++ r.2.2) (l := s.2.2) h
  rw [hm]
  rfl
theorem ahead_iff {r s : Sd} : aheadB r s = true ↔ Fits r s := ⟨fits_of_ahead, ahead_of_fits⟩
theorem Fits.trans {r s u : Sd} (h : Fits r s) (k : Fits s u) : Fits r u := fun w => by
  have h1 := h w
  have h2 := k w
  rw [List.count_append] at h1 h2 ⊢
  omega
theorem Fits.ne {r : Sd} (ne : r.2.1 ≠ []) : ¬ Fits r r := fun h => by
  obtain ⟨x, l, e⟩ := List.exists_cons_of_ne_nil ne
  have := h x
  rw [List.count_append, e, List.count_cons_self] at this
  omega
theorem fits_srow {r s : Sd} : Fits (srow r) (srow s) ↔ Fits r s := by
  have e : ∀ w, ((srow r).2.1 ++ (srow r).2.2).count w = (r.2.1 ++ r.2.2).count w := fun w => by
    show (srt r.2.1 ++ srt r.2.2).count w = _
    rw [List.count_append, (srt_perm r.2.1).count_eq, (srt_perm r.2.2).count_eq, ← List.count_append]
  have e2 : ∀ w, (srow s).2.2.count w = s.2.2.count w := fun w => (srt_perm s.2.2).count_eq w
  constructor
  · intro h w
    have := h w
    rw [e, e2] at this
    exact this
  · intro h w
    rw [e, e2]
    exact h w
theorem filter_take {α : Type} (p : α → Bool) : ∀ {l : List α}, l.Pairwise (fun a b => p b = true → p a = true) → l.take (l.filter p).length = l.filter p ∧ ∀ x ∈ l.drop (l.filter p).length, p x = false
  | [], _ => by simp
  | a :: l, h => by
    obtain ⟨h1, h2⟩ := List.pairwise_cons.mp h
    cases e : p a with
    | true =>
      rw [List.filter_cons_of_pos e, List.length_cons, List.take_succ_cons, List.drop_succ_cons]
      obtain ⟨i1, i2⟩ := filter_take p h2
      exact ⟨by rw [i1], i2⟩
    | false =>
      have n : (a :: l).filter p = [] := List.filter_eq_nil_iff.mpr fun x hx z => by
        rcases List.mem_cons.mp hx with rfl | hx
        · rw [e] at z; cases z
        · have := h1 x hx z
          rw [e] at this
          cases this
      rw [n]
      refine ⟨rfl, fun x hx => ?_⟩
      have := List.filter_eq_nil_iff.mp n x hx
      cases k : p x with
      | true => exact absurd k this
      | false => rfl
abbrev full1 (r : Sd) : Bool := decide (r.2.1 ≠ [])
theorem full_t {r : Sd} (e : r.2.1 ≠ []) : full1 r = true := decide_eq_true e
theorem ordGo_chain : ∀ {rs f fs : List Sd}, f.Pairwise Fits → ordGo f rs = .inl fs → fs.Pairwise Fits ∧ fs.Perm (f ++ rs.filter full1)
  | [], f, fs, p, h => by
    cases h
    exact ⟨p, by rw [List.filter_nil, List.append_nil]⟩
  | r :: rs, f, fs, p, h => by
    unfold ordGo at h
    by_cases e : r.2.1 = []
    · rw [if_pos e] at h
      rw [List.filter_cons_of_neg (by simp [full1, e])]
      exact ordGo_chain p h
    · rw [if_neg e] at h
      rw [List.filter_cons_of_pos (full_t e)]
      split at h
      · cases h
      · rename_i fe
        have cmp : ∀ x ∈ f, Fits x r ∨ Fits r x := fun x hx => by
          have := List.filter_eq_nil_iff.mp fe x hx
          by_cases a : aheadB x r = true
          · exact .inl (fits_of_ahead a)
          · by_cases b : aheadB r x = true
            · exact .inr (fits_of_ahead b)
            · rw [Bool.not_eq_true] at a b
              rw [a, b] at this
              exact absurd rfl this
        obtain ⟨t1, t2⟩ := filter_take (fun x => aheadB x r) (p.imp fun {a b} k z => ahead_of_fits (k.trans (fits_of_ahead z)))
        generalize (f.filter fun x => aheadB x r).length = k at t1 t2 h
        have p' : (f.take k ++ [r] ++ f.drop k).Pairwise Fits := by
          have pf := p
          rw [← List.take_append_drop k f] at pf
          obtain ⟨q1, q2, q3⟩ := List.pairwise_append.mp pf
          have u1 : ∀ x ∈ f.take k, Fits x r := fun x hx => by
            rw [t1] at hx
            exact fits_of_ahead (List.mem_filter.mp hx).2
          have u2 : ∀ x ∈ f.drop k, Fits r x := fun x hx => (cmp x (List.mem_of_mem_drop hx)).resolve_left fun z => by
            have := t2 x hx
            rw [ahead_of_fits z] at this
            cases this
          refine List.pairwise_append.mpr ⟨List.pairwise_append.mpr ⟨q1, List.pairwise_singleton _ _, fun x hx y hy => by rw [List.mem_singleton.mp hy]; exact u1 x hx⟩, q2, fun x hx y hy => ?_⟩
          rcases List.mem_append.mp hx with hx | hx
          · exact q3 x hx y hy
          · rw [List.mem_singleton.mp hx]
            exact u2 y hy
        obtain ⟨i1, i2⟩ := ordGo_chain p' h
        refine ⟨i1, i2.trans ?_⟩
        have := (ins_perm f k r).append_right (rs.filter full1)
        refine this.trans ?_
        rw [List.cons_append]
        exact List.perm_middle.symm
theorem order_chain {rows fs : List Sd} (h : orderM rows = .inl fs) : fs.Pairwise Fits ∧ fs.Perm (rows.filter full1) := ordGo_chain List.Pairwise.nil h
/-! values -/
theorem prodF_append {f : Str → Int} (l m : List Str) : prodF f (l ++ m) = prodF f l * prodF f m := by
  induction l with
  | nil => show prodF f m = 1 * _; rw [Int.one_mul]
  | cons x l ih => rw [List.cons_append, prodF_cons, prodF_cons, ih, Int.mul_assoc]
theorem prodF_perm {f : Str → Int} {l m : List Str} (p : l.Perm m) : prodF f l = prodF f m := by
  induction p with
  | nil => rfl
  | cons x _ ih => rw [prodF_cons, prodF_cons, ih]
  | swap x y l => rw [prodF_cons, prodF_cons, prodF_cons, prodF_cons, ← Int.mul_assoc, Int.mul_comm (f y), Int.mul_assoc]
  | trans _ _ i1 i2 => exact i1.trans i2
theorem prodF_one {f : Str → Int} : ∀ {l : List Str}, (∀ k ∈ l, 1 ≤ f k) → 1 ≤ prodF f l
  | [], _ => Int.le_refl 1
  | k :: l, h => by
    have a := h k (List.mem_cons_self ..)
    have b := prodF_one (l := l) fun x hx => h x (List.mem_cons_of_mem _ hx)
    have := Int.mul_le_mul a b (by decide) (by omega)
    rw [prodF_cons]
    omega
theorem fits_val {f : Str → Int} {r s : Sd} (h : Fits r s) (hs : ∀ k ∈ s.2.2, 1 ≤ f k) (hr : ∀ k ∈ r.2.1 ++ r.2.2, 1 ≤ f k) : prodF f r.2.1 * prodF f r.2.2 ≤ prodF f s.2.2 := by
  obtain ⟨m, hm⟩ := restOf_some (o := r.2.1 ++ r.2.2) (l := s.2.2) h
  have p : s.2.2.Perm (r.2.1 ++ r.2.2 ++ m) := List.perm_iff_count.mpr fun w => by
    rw [restOf_count hm w, List.count_append, List.count_append, List.count_append]; omega
  rw [prodF_perm p, prodF_append, prodF_append]
  have a := prodF_one (l := m) fun k hk => hs k (p.mem_iff.mpr (List.mem_append_right _ hk))
  have b : 1 ≤ prodF f r.2.1 * prodF f r.2.2 := by rw [← prodF_append]; exact prodF_one hr
  have := Int.mul_le_mul_of_nonneg_left a (by omega : 0 ≤ prodF f r.2.1 * prodF f r.2.2)
  rwa [Int.mul_one] at this
/-- a cell's place -/
def spotF (f : Str → Int) (c : Sd → Int) (rows : List Sd) : Int := Gr.spot (fun r => prodF f r.2.2) c rows
theorem spotF_filter {f : Str → Int} {c : Sd → Int} : ∀ {rows : List Sd}, (∀ r ∈ rows, r.2.1 = [] → c r = 0) → spotF f c rows = spotF f c (rows.filter full1)
  | [], _ => rfl
  | r :: rows, h => by
    have i := spotF_filter (f := f) (c := c) (rows := rows) fun x hx => h x (List.mem_cons_of_mem _ hx)
    unfold spotF at i ⊢
    by_cases e : r.2.1 = []
    · rw [List.filter_cons_of_neg (by simp [full1, e]), Gr.spot_cons, h r (List.mem_cons_self ..) e, Int.zero_mul, Int.zero_add, i]
    · rw [List.filter_cons_of_pos (full_t e), Gr.spot_cons, Gr.spot_cons, i]
theorem chain_good {f : Str → Int} {fs : List Sd} (p : fs.Pairwise Fits) (hf : ∀ r ∈ fs, ∀ k ∈ r.2.1 ++ r.2.2, 1 ≤ f k) : Gr.Good (fun r : Sd => prodF f r.2.2) (fun r => prodF f r.2.1) fs.reverse := by
  refine Gr.good_pair (fun r hr => ?_) ?_
  · have h := hf r (List.mem_reverse.mp hr)
    exact ⟨prodF_one fun k hk => h k (List.mem_append_right _ hk), prodF_one fun k hk => h k (List.mem_append_left _ hk)⟩
  · rw [List.pairwise_reverse]
    refine p.imp_of_mem fun {a b} ha hb k => ?_
    exact fits_val k (fun x hx => hf b hb x (List.mem_append_right _ hx)) (hf a ha)
theorem idx_get {α : Type} [BEq α] [LawfulBEq α] : ∀ {l : List α} {i : Nat}, l.Nodup → (h : i < l.length) → l.idxOf l[i] = i
  | a :: l, 0, _, _ => by rw [List.getElem_cons_zero, List.idxOf_cons_self]
  | a :: l, i + 1, nd, h => by
    obtain ⟨n1, n2⟩ := List.pairwise_cons.mp nd
    rw [List.length_cons] at h
    have ne : (a == l[i]'(by omega)) = false := beq_eq_false_iff_ne.mpr (n1 _ (List.getElem_mem (by omega)))
    rw [List.getElem_cons_succ, List.idxOf_cons, ne, idx_get n2 (by omega)]
    rfl
/-- a list's items as a function of the sides -/
def cf (rows : List Sd) (cell : List Int) : Sd → Int := fun r => (cell[rows.idxOf r]?).getD 0
theorem cf_map {rows : List Sd} {cell : List Int} (nd : rows.Nodup) (hl : cell.length = rows.length) : rows.map (cf rows cell) = cell := by
  refine List.ext_getElem (by rw [List.length_map, hl]) fun i h1 h2 => ?_
  rw [List.getElem_map]
  unfold cf
  rw [List.length_map] at h1
  have e : rows.idxOf rows[i] = i := idx_get nd h1
  rw [e, List.getElem?_eq_getElem h2]
  rfl
theorem Rows.nd {rows : List Sd} (h : Rows rows) : rows.Nodup := List.Pairwise.of_map (·.1) (fun _ _ n e => n (by rw [e])) h.dis
/-- a cell within its sizes -/
def Cell (f : Str → Int) (rows : List Sd) (cell : List Int) : Prop := cell.length = rows.length ∧ ∀ r ∈ rows, 0 ≤ cf rows cell r ∧ cf rows cell r < prodF f r.2.1
theorem cell_inj {f : Str → Int} {rows fs : List Sd} {c d : List Int} (hR : Rows rows) (p : fs.Pairwise Fits) (q : fs.Perm (rows.filter full1)) (hf : ∀ r ∈ rows, ∀ k ∈ r.2.1 ++ r.2.2, 1 ≤ f k)
    (hc : Cell f rows c) (hd : Cell f rows d) (e : spotF f (cf rows c) rows = spotF f (cf rows d) rows) : c = d := by
  have z : ∀ {x : List Int}, Cell f rows x → ∀ r ∈ rows, r.2.1 = [] → cf rows x r = 0 := fun hx r hr e => by
    have := hx.2 r hr
    rw [e] at this
    have k : prodF f [] = 1 := rfl
    rw [k] at this
    omega
  rw [spotF_filter (z hc), spotF_filter (z hd)] at e
  unfold spotF at e
  have pr : fs.reverse.Perm (rows.filter full1) := (List.reverse_perm fs).trans q
  rw [← Gr.spot_perm pr, ← Gr.spot_perm pr] at e
  have mem : ∀ r ∈ fs.reverse, r ∈ rows := fun r hr => (List.mem_filter.mp (pr.mem_iff.mp hr)).1
  have k := Gr.inj (chain_good p fun r hr => hf r (mem r (List.mem_reverse.mpr hr))) (fun r hr => hc.2 r (mem r hr)) (fun r hr => hd.2 r (mem r hr)) e
  rw [← cf_map hR.nd hc.1, ← cf_map hR.nd hd.1]
  refine List.map_congr_left fun r hr => ?_
  by_cases e : r.2.1 = []
  · rw [z hc r hr e, z hd r hr e]
  · exact k r (pr.mem_iff.mpr (List.mem_filter.mpr ⟨hr, decide_eq_true e⟩))
/-! full tables -/
def FullFrom : List Str → List Sd → Prop
  | _, [] => True
  | due, r :: fs => r.2.2.Perm due ∧ FullFrom (r.2.1 ++ r.2.2) fs
def prodZ (f : Str → Int) : List Sd → Int
  | [] => 1
  | r :: rows => prodF f r.2.1 * prodZ f rows
theorem prodZ_perm {f : Str → Int} {l m : List Sd} (p : l.Perm m) : prodZ f l = prodZ f m := by
  induction p with
  | nil => rfl
  | cons x _ ih => unfold prodZ; rw [ih]
  | swap x y l => unfold prodZ; unfold prodZ; rw [← Int.mul_assoc, Int.mul_comm (prodF f y.2.1), Int.mul_assoc]
  | trans _ _ i1 i2 => exact i1.trans i2
theorem prodZ_filter {f : Str → Int} : ∀ {rows : List Sd}, prodZ f rows = prodZ f (rows.filter full1)
  | [] => rfl
  | r :: rows => by
    have i := prodZ_filter (f := f) (rows := rows)
    by_cases e : r.2.1 = []
    · rw [List.filter_cons_of_neg (by simp [full1, e]), ← i]
      show prodF f r.2.1 * _ = _
      rw [e]
      show 1 * _ = _
      rw [Int.one_mul]
    · rw [List.filter_cons_of_pos (full_t e)]
      show _ * _ = _ * _
      rw [i]
theorem full_top {f : Str → Int} : ∀ {fs : List Sd} {due : List Str}, FullFrom due fs → Gr.topv (fun r : Sd => prodF f r.2.2) (fun r => prodF f r.2.1) fs = prodF f due * (prodZ f fs - 1)
  | [], due, _ => by
    show (0 : Int) = _ * (1 - 1)
    rw [Int.sub_self, Int.mul_zero]
  | r :: fs, due, h => by
    rw [Gr.top_cons, full_top h.2, prodF_append, prodF_perm h.1]
    show _ = prodF f due * (prodF f r.2.1 * prodZ f fs - 1)
    simp only [Int.sub_mul, Int.mul_sub, Int.mul_one, Int.one_mul]
    rw [Int.mul_comm (prodF f r.2.1) (prodF f due), Int.mul_assoc]
    omega
theorem full_chain : ∀ {fs : List Sd} {due : List Str}, FullFrom due fs → fs.Pairwise Fits ∧ ∀ r ∈ fs, ∀ w, due.count w ≤ r.2.2.count w
  | [], _, _ => ⟨.nil, fun _ h => nomatch h⟩
  | r :: fs, due, h => by
    obtain ⟨i1, i2⟩ := full_chain h.2
    refine ⟨List.pairwise_cons.mpr ⟨fun s hs w => i2 s hs w, i1⟩, fun s hs w => ?_⟩
    rcases List.mem_cons.mp hs with rfl | hs
    · rw [h.1.count_eq]
      exact Nat.le_refl _
    · have := i2 s hs w
      rw [List.count_append, h.1.count_eq] at this
      omega
theorem full_lt {f : Str → Int} {rows fs : List Sd} {c : List Int} (u : FullFrom [] fs) (q : fs.Perm (rows.filter full1)) (hf : ∀ r ∈ rows, ∀ k ∈ r.2.1 ++ r.2.2, 1 ≤ f k) (hc : Cell f rows c) : 0 ≤ spotF f (cf rows c) rows ∧ spotF f (cf rows c) rows < prodZ f rows := by
  have z : ∀ r ∈ rows, r.2.1 = [] → cf rows c r = 0 := fun r hr e => by
    have := hc.2 r hr
    rw [e] at this
    have k : prodF f [] = 1 := rfl
    rw [k] at this
    omega
  rw [spotF_filter z]
  unfold spotF
  rw [← Gr.spot_perm q, prodZ_filter, ← prodZ_perm q]
  have mem : ∀ r ∈ fs, r ∈ rows := fun r hr => (List.mem_filter.mp (q.mem_iff.mp hr)).1
  have p1 : ∀ r ∈ fs, 1 ≤ prodF f r.2.2 := fun r hr => prodF_one fun k hk => hf r (mem r hr) k (List.mem_append_right _ hk)
  have w : Gr.Within (fun r : Sd => prodF f r.2.1) (cf rows c) fs := fun r hr => hc.2 r (mem r hr)
  have a := Gr.spot_nonneg p1 w
  have b := Gr.spot_le p1 w
  have t := full_top (f := f) u
  have e1 : prodF f [] = 1 := rfl
  rw [e1, Int.one_mul] at t
  omega
end CP

set_option Elab.async false
set_option linter.all false
set_option maxRecDepth 100000
set_option maxHeartbeats 4000000
set_option autoImplicit false
/-! cells as lists, their places -/
namespace CP
open L2 PySem PyProof.Rows
def intL (l : List Int) : List V := l.map V.int
theorem intL_len (l : List Int) : (intL l).length = l.length := List.length_map _
theorem intL_get {l : List Int} {i : Nat} {x : V} (h : (intL l)[i]? = some x) : ∃ n, l[i]? = some n ∧ x = .int n := by
  unfold intL at h
  rw [List.getElem?_map] at h
  cases e : l[i]? with
  | none => rw [e] at h; cases h
  | some n => rw [e] at h; cases h; exact ⟨n, rfl, rfl⟩
theorem intL_app (l m : List Int) : intL (l ++ m) = intL l ++ intL m := List.map_append
def IntsAt (H : Hp) (v : V) (l : List Int) : Prop := ∃ a, v = .ref a ∧ H a = some (.lst (intL l))
theorem IntsAt.mono {H H' : Hp} {v : V} {l : List Int} (h : IntsAt H v l) (s : Same H H') : IntsAt H' v l := by
  obtain ⟨a, e, h1⟩ := h
  exact ⟨a, e, s _ _ h1⟩
def spotL (f : Str → Int) (rows : List Sd) (cell : List Int) : Int := ((rows.zip cell).map fun p => p.2 * prodF f p.1.2.2).sum
theorem spot_map {f : Str → Int} {c : Sd → Int} : ∀ rows : List Sd, spotL f rows (rows.map c) = spotF f c rows
  | [] => rfl
  | r :: rows => by
    have i := spot_map (f := f) (c := c) rows
    unfold spotL spotF at *
    rw [List.map_cons, List.zip_cons_cons, List.map_cons, List.sum_cons, i, Gr.spot_cons]
theorem spot_eq {f : Str → Int} {rows : List Sd} {cell : List Int} (nd : rows.Nodup) (hl : cell.length = rows.length) : spotL f rows cell = spotF f (cf rows cell) rows := by
  rw [← spot_map, cf_map nd hl]
section
variable {β : Type} {K : PySem.W.Frag} {a : Addr} {g : TG} {tt : TT} {te : TE} {vs : List Nat} {σ : L2.St} {H1 : Hp} {D : Addr} {Qd : Hp → Prop}
theorem lc_valsR {lo : Int} {n : Nat} (ys : List V) (hD : H1 D = none) (hl : n = ys.length) (hz : ys.length < sizeLine)
    (hs : ∀ (i : Nat) (y : V) (H : Hp), i < n → ys[i]? = some y → Same H1 H → Turn (β := V) g tt te vs σ (fun _ x b => x = b) D H (.int (lo + i)) (some y)) (hd : ∀ H, Same H1 H → H D = some (.lst ys) → Qd H) :
    ∃ W : Nat → Nat → Hp → Prop, (∃ m, W 0 m (upd H1 D (.lst []))) ∧ ∀ i m H, W i m H →
      ((Itr lo n).stop i H ∧ Qd H) ∨ ((Itr lo n).go i H ∧ ∃ Nx : Hp → Prop, (∀ H', Nx H' → ∃ m', m' < m ∧ W (i + 1) m' H') ∧ ∀ x H', (Itr lo n).yld i H x H' → g x (wipe σ vs) H' fun σ2 H2 => wipe σ2 vs = wipe σ vs ∧ tt σ2 H2 fun b H3 =>
        if b = true then te σ2 H3 fun y H4 => ∃ acc, H4 D = some (.lst acc) ∧ acc.length < sizeLine ∧ Nx (upd H4 D (.lst (acc ++ [y]))) else Nx H3) := by
  refine lc_tellR (β := V) (fun _ x b => x = b) (ys.map some) hD (by rw [List.length_map]; exact hl) (by rw [List.length_map]; exact hz) (fun _ _ _ _ _ z => z) (fun i o H hi ho s1 _ => ?_) fun H acc s1 hacc pp => ?_
  · rw [List.getElem?_map] at ho
    cases ey : ys[i]? with
    | none => rw [ey] at ho; cases ho
    | some y =>
      rw [ey] at ho
      cases ho
      exact hs i y H hi ey s1
  · have e : acc = ys := by
      rw [pd_eq pp, List.filterMap_map]
      exact List.filterMap_some
    subst e
    exact hd H s1 hacc
/-- over a range, each turn a list of ints -/
theorem lc_intsR {lo : Int} {n : Nat} (ls : List (List Int)) (hD : H1 D = none) (hl : n = ls.length) (hz : ls.length < sizeLine)
    (hs : ∀ (i : Nat) (l : List Int) (H : Hp), i < n → ls[i]? = some l → Same H1 H → (∃ acc, H D = some (.lst acc)) → Turn g tt te vs σ IntsAt D H (.int (lo + i)) (some l)) (hd : ∀ H acc, Same H1 H → H D = some (.lst acc) → Paired (IntsAt H) acc ls → Qd H) :
    ∃ W : Nat → Nat → Hp → Prop, (∃ m, W 0 m (upd H1 D (.lst []))) ∧ ∀ i m H, W i m H →
      ((Itr lo n).stop i H ∧ Qd H) ∨ ((Itr lo n).go i H ∧ ∃ Nx : Hp → Prop, (∀ H', Nx H' → ∃ m', m' < m ∧ W (i + 1) m' H') ∧ ∀ x H', (Itr lo n).yld i H x H' → g x (wipe σ vs) H' fun σ2 H2 => wipe σ2 vs = wipe σ vs ∧ tt σ2 H2 fun b H3 =>
        if b = true then te σ2 H3 fun y H4 => ∃ acc, H4 D = some (.lst acc) ∧ acc.length < sizeLine ∧ Nx (upd H4 D (.lst (acc ++ [y]))) else Nx H3) := by
  refine lc_tellR IntsAt (ls.map some) hD (by rw [List.length_map]; exact hl) (by rw [List.length_map]; exact hz) (fun _ _ _ _ s z => IntsAt.mono z s) (fun i o H hi ho s1 ha => ?_) fun H acc s1 hacc pp => ?_
  · rw [List.getElem?_map] at ho
    cases ey : ls[i]? with
    | none => rw [ey] at ho; cases ho
    | some y =>
      rw [ey] at ho
      cases ho
      exact hs i y H hi ey s1 ha
  · rw [List.filterMap_map, show ls.filterMap (id ∘ some) = ls from List.filterMap_some] at pp
    exact hd H acc s1 hacc pp
end
theorem ints_mono {H H' : Hp} {vs : List V} {ls : List (List Int)} (h : Paired (IntsAt H) vs ls) (s : Same H H') : Paired (IntsAt H') vs ls := pd_mono h fun _ _ z => IntsAt.mono z s
/-- the values of letters are small -/
def Small (kv : List (Str × Int)) (ks : List Str) : Prop := ∀ k ∈ ks, (getD kv k).isSome = true ∧ 1 ≤ atD kv k ∧ atD kv k ≤ 2 ^ 13
theorem prodF_le13 {f : Str → Int} : ∀ {l : List Str}, (∀ k ∈ l, 1 ≤ f k ∧ f k ≤ 2 ^ 13) → 1 ≤ prodF f l ∧ prodF f l ≤ 2 ^ (13 * l.length)
  | [], _ => ⟨Int.le_refl 1, Int.le_refl 1⟩
  | k :: l, h => by
    obtain ⟨a, b⟩ := h k (List.mem_cons_self ..)
    obtain ⟨c, d⟩ := prodF_le13 (l := l) fun x hx => h x (List.mem_cons_of_mem _ hx)
    rw [prodF_cons, List.length_cons, Nat.mul_add, Nat.mul_one, Int.pow_add, Int.mul_comm]
    refine ⟨?_, Int.mul_le_mul d b (by omega) (Int.le_of_lt (Int.pow_pos (by decide)))⟩
    have := Int.mul_le_mul c a (by decide) (by omega)
    rwa [Int.mul_one] at this
theorem Small.sub {kv : List (Str × Int)} {ks js : List Str} (h : Small kv ks) (s : ∀ k ∈ js, k ∈ ks) : Small kv js := fun k hk => h k (s k hk)
theorem Small.low {kv : List (Str × Int)} {l : List Str} (h : Small kv l) (n : l.length ≤ 30) : (∀ k ∈ l, valV (dV kv) (Sum.inr k) = some (.int (atD kv k)) ∧ 0 ≤ atD kv k ∧ atD kv k < 2 ^ 400) ∧ (∀ i, i ≤ l.length → prodF (atD kv) (l.take i) < 2 ^ 400) ∧ 1 ≤ prodF (atD kv) l ∧ prodF (atD kv) l ≤ 2 ^ (13 * l.length) ∧ prodF (atD kv) l < 2 ^ 400 := by
  have b : ∀ k ∈ l, 1 ≤ atD kv k ∧ atD kv k ≤ 2 ^ 13 := fun k hk => (h k hk).2
  refine ⟨fun k hk => ?_, fun i _ => ?_, (prodF_le13 b).1, (prodF_le13 b).2, Int.lt_of_le_of_lt (prodF_le13 b).2 (two_lt (by omega))⟩
  · obtain ⟨c1, c2, c3⟩ := h k hk
    refine ⟨?_, by omega, Int.lt_of_le_of_lt c3 (two_lt (a := 13) (b := 400) (by omega))⟩
    rw [dV_val]
    unfold atD
    cases e : getD kv k with
    | none => rw [e] at c1; cases c1
    | some n => rfl
  · have := (prodF_le13 (l := l.take i) fun k hk' => b k (List.mem_of_mem_take hk')).2
    refine Int.lt_of_le_of_lt this (two_lt ?_)
    rw [List.length_take]
    omega
def ltrs (rows : List Sd) : List Str := rows.flatMap fun r => r.2.1 ++ r.2.2
theorem ltrs_size {rows : List Sd} {r : Sd} (h : r ∈ rows) : ∀ k ∈ r.2.1, k ∈ ltrs rows := fun k hk => List.mem_flatMap.mpr ⟨r, h, List.mem_append_left _ hk⟩
theorem ltrs_step {rows : List Sd} {r : Sd} (h : r ∈ rows) : ∀ k ∈ r.2.2, k ∈ ltrs rows := fun k hk => List.mem_flatMap.mpr ⟨r, h, List.mem_append_right _ hk⟩
theorem mem_ltrs {rows : List Sd} {k : Str} : k ∈ sizesM rows ↔ k ∈ ltrs rows := mem_sset
theorem Small.f1 {kv : List (Str × Int)} {rows : List Sd} (h : Small kv (ltrs rows)) : ∀ r ∈ rows, ∀ k ∈ r.2.1 ++ r.2.2, 1 ≤ atD kv k := fun r hr k hk => (h k (List.mem_flatMap.mpr ⟨r, hr, hk⟩)).2.1
end CP
namespace CP
open L2 PySem PyProof.Rows
def fitsB (r s : Sd) : Bool := (r.2.1 ++ r.2.2).all fun w => decide ((r.2.1 ++ r.2.2).count w ≤ s.2.2.count w)
theorem fitsB_iff {r s : Sd} : fitsB r s = true ↔ Fits r s := by
  unfold fitsB
  rw [List.all_eq_true]
  constructor
  · intro h w
    by_cases m : w ∈ r.2.1 ++ r.2.2
    · exact of_decide_eq_true (h w m)
    · rw [List.count_eq_zero.mpr m]
      exact Nat.zero_le _
  · intro h w _
    exact decide_eq_true (h w)
theorem fitsB_of {b : Bool} {r s : Sd} (h : b = true ↔ ∀ w, (r.2.1 ++ r.2.2).count w ≤ s.2.2.count w) : b = fitsB r s := by
  cases e : fitsB r s with
  | true => exact h.mpr (fitsB_iff.mp e)
  | false =>
    cases b with
    | false => rfl
    | true =>
      have := fitsB_iff.mpr (h.mp rfl)
      rw [e] at this
      cases this
/-- as the law lays sides in their order -/
def lawOrd : List Sd → List Sd → List Sd
  | found, [] => found
  | found, r :: rs => if r.2.1 = [] then lawOrd found rs else lawOrd (found.take (found.filter fun u => fitsB u r).length ++ [r] ++ found.drop (found.filter fun u => fitsB u r).length) rs
theorem fitsB_srow {r s : Sd} : aheadB (srow r) (srow s) = fitsB r s := by
  cases e : fitsB r s with
  | true => exact ahead_of_fits (fits_srow.mpr (fitsB_iff.mp e))
  | false =>
    cases k : aheadB (srow r) (srow s) with
    | false => rfl
    | true =>
      have := fitsB_iff.mpr (fits_srow.mp (fits_of_ahead k))
      rw [e] at this
      cases this
theorem srt_nil {l : List Str} : srt l = [] ↔ l = [] := by
  constructor
  · intro h
    have := srt_len l
    rw [h] at this
    exact List.eq_nil_of_length_eq_zero this.symm
  · intro h
    rw [h]
    exact List.eq_nil_of_length_eq_zero (srt_len [])
theorem lawOrd_eq : ∀ {rs f fs : List Sd}, ordGo (f.map srow) (rs.map srow) = .inl fs → fs = (lawOrd f rs).map srow
  | [], f, fs, h => by cases h; rfl
  | r :: rs, f, fs, h => by
    rw [List.map_cons] at h
    unfold ordGo at h
    unfold lawOrd
    by_cases e : r.2.1 = []
    · rw [if_pos e]
      rw [if_pos (show (srow r).2.1 = [] from srt_nil.mpr e)] at h
      exact lawOrd_eq h
    · rw [if_neg e]
      rw [if_neg (show ¬ (srow r).2.1 = [] from fun z => e (srt_nil.mp z))] at h
      split at h
      · cases h
      · refine lawOrd_eq ?_
        rw [← h]
        have ef : ((f.map srow).filter fun u => aheadB u (srow r)).length = (f.filter fun u => fitsB u r).length := by
          rw [List.filter_map, List.length_map]
          congr 1
          refine List.filter_congr fun x _ => ?_
          exact fitsB_srow
        rw [ef, List.map_append, List.map_append, List.map_take, List.map_drop]
        rfl
theorem lawOrd_names {rows fs : List Sd} (h : orderM (rows.map srow) = .inl fs) : (lawOrd [] rows).map (·.1) = fs.map (·.1) := by
  rw [lawOrd_eq (f := []) h, List.map_map]
  rfl
theorem cut_head (xs : List V) (n : Nat) : cutV xs none (some (n : Int)) = xs.take n := by
  unfold cutV
  rw [HT.sIx_none, HT.sIx_nat, List.drop_zero, Nat.sub_zero]
  by_cases h : n ≤ xs.length
  · rw [Nat.min_eq_left h]
  · rw [Nat.min_eq_right (by omega), List.take_length, List.take_of_length_le (by omega)]
/-- an order stands exactly where any two are comparable -/
theorem order_iff {rows : List Sd} : (∃ fs, orderM (rows.map srow) = .inl fs) ↔ (rows.filter fun r => decide (r.2.1 ≠ [])).Pairwise Comp := by
  constructor
  · rintro ⟨fs, h⟩
    obtain ⟨p, q⟩ := order_chain h
    have pc : fs.Pairwise Comp := p.imp fun k => .inl k
    have sy : ∀ {x y : Sd}, Comp x y → Comp y x := fun k => k.symm
    have pq : ((rows.map srow).filter full1).Pairwise Comp := (q.pairwise_iff sy).mp pc
    rw [List.filter_map] at pq
    have e : rows.filter (full1 ∘ srow) = rows.filter fun r => decide (r.2.1 ≠ []) := List.filter_congr fun r _ => by
      show decide (srt r.2.1 ≠ []) = decide (r.2.1 ≠ [])
      by_cases e : r.2.1 = []
      · rw [decide_eq_false (show ¬ srt r.2.1 ≠ [] from fun z => z (srt_nil.mpr e)), decide_eq_false (show ¬ r.2.1 ≠ [] from fun z => z e)]
      · rw [decide_eq_true (show srt r.2.1 ≠ [] from fun z => e (srt_nil.mp z)), decide_eq_true (show r.2.1 ≠ [] from e)]
    rw [e] at pq
    exact (List.pairwise_map.mp pq).imp fun k => k.imp fits_srow.mp fits_srow.mp
  · exact order_ok
end CP
namespace CP
open L2 PySem PyProof.Rows
def zsN (f : Str → Int) (rows : List Sd) : List Nat := rows.map fun r => (prodF f r.2.1).toNat
theorem prodN_pos : ∀ {zs : List Nat} (r : List Nat), r.reverse = zs → (∀ z ∈ zs, 1 ≤ z) → 1 ≤ Gr.prodN zs
  | _, [], rfl, _ => Nat.le_refl 1
  | _, z :: r, rfl, h => by
    rw [List.reverse_cons, Gr.prodN_app]
    rw [List.reverse_cons] at h
    have a := prodN_pos r rfl fun x hx => h x (List.mem_append_left _ hx)
    have b := h z (List.mem_append_right _ (List.mem_singleton.mpr rfl))
    exact Nat.mul_le_mul a b
theorem prodN_take {zs : List Nat} (h : ∀ z ∈ zs, 1 ≤ z) (i : Nat) : Gr.prodN (zs.take i) ≤ Gr.prodN zs := by
  have e : ∀ (l : List Nat) (a : Nat), l.foldl (· * ·) a = a * Gr.prodN l := by
    intro l
    induction l with
    | nil => intro a; show a = a * 1; omega
    | cons x l ih =>
      intro a
      unfold Gr.prodN
      rw [List.foldl_cons, List.foldl_cons, ih, ih, Nat.one_mul, Nat.mul_assoc]
  have : Gr.prodN zs = Gr.prodN (zs.take i) * Gr.prodN (zs.drop i) := by
    rw [← e]
    unfold Gr.prodN
    rw [← List.foldl_append, List.take_append_drop]
  rw [this]
  have p := prodN_pos _ (List.reverse_reverse (zs.drop i)) fun z hz => h z (List.mem_of_mem_drop hz)
  exact Nat.le_mul_of_pos_right _ p
theorem flat_take {c : List (List Int)} {z i : Nat} {x : List Int} (h : c[i]? = some x) : ((c.take (i + 1)).flatMap fun c => (List.range z).map fun i => c ++ [((i : Nat) : Int)]) = ((c.take i).flatMap fun c => (List.range z).map fun i => c ++ [((i : Nat) : Int)]) ++ (List.range z).map fun i => x ++ [((i : Nat) : Int)] := by
  rw [take_succ h, List.flatMap_append]
  simp
end CP

set_option Elab.async false
set_option linter.all false
set_option maxRecDepth 100000
set_option maxHeartbeats 4000000
set_option autoImplicit false
/-! sorted(d.items()), d a dict of ints by ints -/
namespace CP
open L2 PySem PyProof.Rows

/-- the pair of ints that a value is at a heap -/
def pairOf (h : Heap) (v : Value) : Int × Int := match v with
  | .ref a => match h.get? a with
    | some o => match o.data with
      | .seq xs _ => match xs.toList with
        | [.int x _, .int y _] => (x, y)
        | _ => (0, 0)
      | _ => (0, 0)
    | none => (0, 0)
  | _ => (0, 0)
theorem pairOf_is {h : Heap} {v : Value} {x y : Int} (p : Srt.IsPair h v x y) : pairOf h v = (x, y) := by
  obtain ⟨a, o, t, u, n, rfl, ho, hc, hd⟩ := p
  unfold pairOf
  simp only [ho, hd]
section
variable {P : Program} {w : World} {A : Around} {E : Value → Shared → Prop} {s : Shared}
theorem call_sortedItems {r d : Addr} {ep : Nat} {kvs : List (Key × Value)} {Q : Value → Shared → Prop} (hh : A.handled = none) (hv : s.heap.IsItemsView r d) (hm : s.heap.DictAt (mixKind P w) d kvs ep) (hn : kvs.length ≤ sizeLine) (hne : kvs ≠ [])
    (hi : ∀ p ∈ kvs, ∃ (i j : Int) (t : Tok), p = (Sum.inl i, Value.int j t))
    (h : ∀ (h' : Heap) (tk : Nat) (l : Addr) (as : List Addr) (out : List Value), (∀ b o, s.heap.get? b = some o → h'.get? b = some o) → s.heap.objs.size ≤ l → (∀ a ∈ as, s.heap.objs.size ≤ a ∧ a < l) → as.Nodup →
      as.length = kvs.length → (∀ (j : Nat) (a : Addr), as[j]? = some a → ∃ (x y : Int) (t : Tok), kvs[j]? = some (Sum.inl x, Value.int y t) ∧ Srt.IsPair h' (.ref a) x y) →
      out.Perm (as.map Value.ref) → out.Pairwise (fun u v => SrtO.lexB (pairOf h' v) (pairOf h' u) = false) → (∃ n, h'.get? l = some (seqObj "list" out.toArray n)) → Q (.ref l) { s with heap := h', toks := tk }) :
    wpAny (model P w) A (call (.builtin "sorted") [.ref r]) Q E s := by
  refine Calls.call_function_entry kind_sorted plain_sorted entry_sorted (args_sorted1 _) ?_
  unfold Builtin.«sorted»
  refine wpAny_bind (m := checkCount "sorted" 1 1 _) (wpAny_pure ?_)
  refine wpAny_bind (PySem.W.kdx_collect (knd := mixKind P w) (kvs := kvs) (ep := ep) (A := A.in1) hh hv hm hn fun h1 tk as k1 hl hG => ?_)
  have hlen : (as.map Value.ref).length ≤ sizeLine := by rw [List.length_map, hl]; exact hn
  refine wpAny_bind (wpAny_newList ?_ hlen)
  have pr : ∀ (j : Nat) (a : Addr), as[j]? = some a → ∃ (x y : Int) (t : Tok), kvs[j]? = some (Sum.inl x, Value.int y t) ∧ Srt.IsPair h1 (.ref a) x y := fun j a e => by
    obtain ⟨key, k, x, e1, e2, e3⟩ := hG.pairs j a e
    obtain ⟨i, y, t, ep⟩ := hi _ (List.mem_of_getElem? e1)
    cases ep
    obtain ⟨t2, rfl⟩ : ∃ t2, key = Value.int i t2 := Value.isInt_shape (show Value.isInt i key = true from e2)
    exact ⟨i, y, t, e1, a, _, t2, t, _, rfl, e3, rfl, rfl⟩
  have hp : ∀ v ∈ as.map Value.ref, Srt.IsPair h1 v (pairOf h1 v).1 (pairOf h1 v).2 := fun v hv => by
    obtain ⟨a, ha, rfl⟩ := List.mem_map.mp hv
    obtain ⟨j, hj⟩ := List.mem_iff_getElem?.mp ha
    obtain ⟨x, y, t, _, q⟩ := pr j a hj
    rw [pairOf_is q]
    exact q
  have hoL : (h1.push (seqObj "list" (as.map Value.ref).toArray 0)).get? h1.objs.size = some (seqObj "list" (as.map Value.ref).toArray 0) := Heap.get?_push_size _ rfl
  have sz : s.heap.objs.size ≤ h1.objs.size := by
    cases as with
    | nil => exact absurd (List.length_eq_zero_iff.mp hl.symm) hne
    | cons a l =>
      have q1 := hG.above a (List.mem_cons_self ..)
      have q2 := hG.there (List.mem_cons_self ..)
      exact Nat.le_of_lt (Nat.lt_trans q1 q2)
  refine wpAny_bind (wpAny_holding (wpAny_call_entry slot_list_sort ⟨_, hoL, rfl⟩ entry_list_sort (SrtO.list_sort_ord (SrtO.swo_lex (pairOf h1)) hoL hlen (fun h2 => SrtO.pairs_sortableO (by omega) (fun v hv => (hp v hv).keeps fun b o e _ => Heap.get?_push_of_some _ e) fun o e => ?_) fun out hs hb => ⟨_, rfl, ?_⟩) (args_list_sort _)))
  · have e' := e.symm.trans hoL
    cases e'
    intro c
    exact absurd (Value.type.inj c) (by decide)
  · refine wpAny_pure ⟨_, rfl, ?_⟩
    have old : ∀ b o, h1.get? b = some o → (sortedHeap (h1.push (seqObj "list" (as.map Value.ref).toArray 0)) h1.objs.size (as.map Value.ref) out.toArray).get? b = some o := fun b o e => by
      have lt := Heap.lt_size e
      rw [sortedHeap_old (Nat.ne_of_lt lt) (by rw [Heap.size_push]; exact Nat.lt_succ_of_lt lt)]
      exact Heap.get?_push_of_some _ e
    have pe : ∀ v, v ∈ as.map Value.ref → pairOf (sortedHeap (h1.push (seqObj "list" (as.map Value.ref).toArray 0)) h1.objs.size (as.map Value.ref) out.toArray) v = pairOf h1 v := fun v hv =>
      pairOf_is ((hp v hv).keeps fun b o e _ => old b o e)
    refine h _ tk h1.objs.size as out (fun b o e => old b o (k1 b o e)) sz (fun a ha => ⟨Nat.le_of_lt (hG.above a ha), hG.there ha⟩) (hG.rise.imp fun {a b} (z : a < b) => Nat.ne_of_lt z) hl (fun j a e => ?_) hb.perm ?_ ?_
    · obtain ⟨x, y, t, e1, q⟩ := pr j a e
      exact ⟨x, y, t, e1, q.keeps fun b o e _ => old b o e⟩
    · have hs' : out.Pairwise fun u v => SrtO.lexB (pairOf h1 v) (pairOf h1 u) = false := hs
      refine hs'.imp_of_mem fun {u v} hu hv z => ?_
      rw [pe u (hb.perm.mem_iff.mp hu), pe v (hb.perm.mem_iff.mp hv)]
      exact z
    · exact sortedHeap_at hoL
end
/-- a list of tuples of two ints -/
def PairsAt (H : Hp) (p : Addr) (qs : List (Int × Int)) : Prop := ∃ ts : List Addr, H p = some (.lst (ts.map V.ref)) ∧ Paired (fun (t : Addr) (q : Int × Int) => H t = some (.tup [.int q.1, .int q.2])) ts qs
/-- pairs in order: by the first, then the second -/
def PLe (p q : Int × Int) : Prop := p.1 < q.1 ∨ (p.1 = q.1 ∧ p.2 ≤ q.2)
def tSortedItems (te : TE) : TE := fun σ H Q => te σ H fun x H1 => ∃ (d : Addr) (ps : List (Int × Int)), x = .ref d ∧ H1 d = some (.dK (ps.map fun p => (Sum.inl p.1, V.int p.2))) ∧ ps ≠ [] ∧
  ∀ (qs : List (Int × Int)) (p : Addr) (H' : Hp), qs.Perm ps → qs.Pairwise PLe → Same H1 H' → H1 p = none → PairsAt H' p qs → Q (.ref p) H'
theorem kv_ints : ∀ {ps : List (Int × Int)} {vs : List (Key × Value)}, KV (ps.map fun p => ((Sum.inl p.1 : Key), V.int p.2)) vs → ∀ p ∈ vs, ∃ (i j : Int) (t : Tok), p = (Sum.inl i, Value.int j t)
  | [], _, .nil, p, h => by cases h
  | a :: ps, _, .cons r t, p, h => by
    rcases List.mem_cons.mp h with e | h
    · subst e
      obtain ⟨e1, tk, e2⟩ := r
      exact ⟨a.1, a.2, tk, Prod.ext e1.symm e2⟩
    · exact kv_ints t p h
theorem kv_at : ∀ {ps : List (Int × Int)} {vs : List (Key × Value)}, KV (ps.map fun p => ((Sum.inl p.1 : Key), V.int p.2)) vs → ∀ (j : Nat) (x y : Int) (t : Tok), vs[j]? = some (Sum.inl x, Value.int y t) → ps[j]? = some (x, y)
  | [], _, .nil, j, x, y, t, h => by cases h
  | a :: ps, _, .cons r tl, 0, x, y, t, h => by
    obtain ⟨e1, tk, e2⟩ := r
    cases h
    have e3 := Sum.inl.inj e1
    cases e2
    exact congrArg some (Prod.ext e3 rfl)
  | a :: ps, _, .cons r tl, j + 1, x, y, t, h => kv_at tl j x y t h
/-- the addresses of a list of references -/
def adr (v : Value) : Addr := match v with
  | .ref a => a
  | _ => 0
section
variable {X : Cx} {e : Expr} {te : TE} {p apos cpos pos : Pos}
theorem pe_sortedItems (hc : X.calm = true) (he : PE X e te) (hg : Gl X "sorted") (hm : X.mg "sorted" = none) (hbase : attributeBase e "items" X.env (eval e X.env) = eval e X.env := by rfl) (hline : (apos.endLine == cpos.line) = true := by rfl)
    (hs : starEach [.Call (.Attribute e "items" apos) [] [] cpos] X.env = (false, eval (.Call (.Attribute e "items" apos) [] [] cpos) X.env) :: starEach [] X.env := by rfl) :
    PE X (.Call (.Name "sorted" p) [.Call (.Attribute e "items" apos) [] [] cpos] [] pos) (tSortedItems te) := by
  refine ⟨fun pins s σ H Q I hq => ?_⟩
  have hb : bootBuiltins "sorted" = some (.builtin "sorted") := by decide +kernel
  refine wpAny_Call_Name_kw (ld_blt I hg hm hb ?_)
  refine PyProof.Rows.callWith_builtin1 ?_ hs rfl
  rw [hs]
  show wpAny _ _ (spliced ((false, eval (.Call (.Attribute e "items" apos) [] [] cpos) X.env) :: backTo pos (starEach [] X.env))) _ _ s
  refine Calls.spliced_cons ?_
  refine wpAny_Call_method (T := "dict") (id := "dict.items") hbase rfl hline F.plainAttrs_dict F.slot_dict_items F.type_dict_items
    (thn (he.run pins s σ H _ I hq) fun u s1 ⟨x, H1, I1, rx, d, ps, ex, hd, hne, q⟩ => ?_)
  subst ex
  cases (show u = Value.ref d from rx)
  obtain ⟨hz, hs0, vs, kv, hdo⟩ := I1.hok d _ hd
  obtain ⟨ep, hat⟩ := hdo.dictAt
  have lk := Paired.length kv
  rw [List.length_map] at lk hz
  have I2 : Inv X pins σ H1 { s1 with heap := s1.heap.push { cls := .type "dict_items", data := .fields #[.ref d] } } := I1.kept (t' := s1.toks) fun b ob q => Heap.get?_push_of_some _ q
  refine ⟨hdo.typeIs, hdo.mapOf.noDict, ?_⟩
  show wpAny _ _ (callWith cpos (.builtin "dict.items") [.ref d] [] []) _ X.xe s1
  refine method_meetsIn F.slot_dict_items F.entry_dict_items rfl (PySem.evalArgs_none ⟨rfl, hdo.typeIs, F.args_dict_items_1 _, _, meets_dict_items (mixKind X.prog X.w) d hs0, ⟨vs, hdo⟩, ?_⟩)
  refine Calls.spliced_nil ?_
  have hps : 0 < ps.length := List.length_pos_iff.mpr hne
  refine call_sortedItems (kvs := vs) (ep := ep) (I1.ok.hd hc) ⟨_, Heap.get?_push_size _ rfl, rfl, rfl⟩ (hat.push _) (by omega) (fun z => by rw [z, List.length_nil] at lk; omega) (kv_ints kv) fun h' tk l as out k1 k2 k3 k4 k5 k6 k7 k8 k9 => ?_
  -- where each tuple stands
  have pt : ∀ (j : Nat) (a : Addr), as[j]? = some a → ∃ x y, ps[j]? = some (x, y) ∧ Srt.IsPair h' (.ref a) x y := fun j a ej => by
    obtain ⟨x, y, t, e1, e2⟩ := k6 j a ej
    exact ⟨x, y, kv_at kv j x y t e1, e2⟩
  have fr : ∀ b, s1.heap.objs.size + 1 ≤ b → H1 b = none := fun b hb => I2.hok.fresh (by rw [Heap.size_push]; exact hb)
  rw [Heap.size_push] at k2 k3
  have nl : l ∉ as := fun z => Nat.lt_irrefl _ (k3 l z).2
  let H' : Hp := fun b => if b = l then some (.lst ((out.map adr).map V.ref)) else if b ∈ as then some (.tup [.int (pairOf h' (.ref b)).1, .int (pairOf h' (.ref b)).2]) else H1 b
  have hl' : H' l = some (.lst ((out.map adr).map V.ref)) := if_pos rfl
  have ha' : ∀ a ∈ as, H' a = some (.tup [.int (pairOf h' (.ref a)).1, .int (pairOf h' (.ref a)).2]) := fun a ha => by
    show (if a = l then _ else _) = _
    rw [if_neg (fun z : a = l => nl (by rw [← z]; exact ha)), if_pos ha]
  have ext : Same H1 H' := fun b o eb => by
    show (if b = l then _ else _) = _
    rw [if_neg (fun z => by rw [z, fr l k2] at eb; cases eb), if_neg (fun z => by rw [fr b (k3 b z).1] at eb; cases eb)]
    exact eb
  have outr : ∀ v ∈ out, ∃ a, a ∈ as ∧ v = Value.ref a := fun v hv => by
    obtain ⟨a, ha, rfl⟩ := List.mem_map.mp (k7.mem_iff.mp hv)
    exact ⟨a, ha, rfl⟩
  have vr : ∀ l : List Value, (∀ v ∈ l, ∃ a, a ∈ as ∧ v = Value.ref a) → Vals ((l.map adr).map V.ref) l := by
    intro l
    induction l with
    | nil => intro _; exact .nil
    | cons v l ih =>
      intro hl
      obtain ⟨a, _, rfl⟩ := hl v (List.mem_cons_self ..)
      exact .cons rfl (ih fun u hu => hl u (List.mem_cons_of_mem _ hu))
  have len : out.length = ps.length := by rw [k7.length_eq, List.length_map, k5, ← lk]
  have J : Inv X pins σ H' { s1 with heap := h', toks := tk } := inv_grow (s := s1) (tk := tk) I1 (fun b o e => k1 b o (Heap.get?_push_of_some _ e)) ext fun b o eb => by
    by_cases h1 : b = l
    · subst h1
      rw [hl'] at eb
      cases eb
      obtain ⟨n, hn⟩ := k9
      refine .inr ⟨Nat.le_of_succ_le k2, by rw [List.length_map, List.length_map]; omega, out, n, vr out outr, hn⟩
    · by_cases h2 : b ∈ as
      · rw [ha' b h2] at eb
        cases eb
        obtain ⟨j, hj⟩ := List.mem_iff_getElem?.mp h2
        obtain ⟨x, y, _, ip⟩ := pt j b hj
        rw [pairOf_is ip]
        obtain ⟨a, ob, t, u, n, ea, g1, g2, g3⟩ := ip
        cases ea
        refine .inr ⟨Nat.le_of_succ_le (k3 b h2).1, by show 2 ≤ sizeLine; decide, [.int x t, .int y u], .cons ⟨t, rfl⟩ (.cons ⟨u, rfl⟩ .nil), ob, g1, g2, n, g3⟩
      · have e3 : H' b = H1 b := by
          show (if b = l then _ else _) = _
          rw [if_neg h1, if_neg h2]
        rw [e3] at eb
        exact .inl eb
  refine ⟨.ref l, H', J, rfl, q (out.map (pairOf h')) l H' ?_ ?_ ext (fr l k2) ⟨out.map adr, hl', ?_⟩⟩
  · refine (k7.map (pairOf h')).trans ?_
    rw [List.map_map]
    refine List.Perm.of_eq ?_
    apply List.ext_getElem?
    intro j
    rw [List.getElem?_map]
    cases ej : as[j]? with
    | none =>
      have : as.length ≤ j := List.getElem?_eq_none_iff.mp ej
      rw [List.getElem?_eq_none (by omega)]
      rfl
    | some a =>
      obtain ⟨x, y, e1, ip⟩ := pt j a ej
      rw [e1]
      show some (pairOf h' (.ref a)) = _
      rw [pairOf_is ip]
  · rw [List.pairwise_map]
    refine k8.imp fun {u v} z => ?_
    have z := SrtO.lexB_no.mp z
    show _ ∨ _
    omega
  · have pr : ∀ l : List Value, (∀ v ∈ l, ∃ a, a ∈ as ∧ v = Value.ref a) → Paired (fun (t : Addr) (q : Int × Int) => H' t = some (.tup [.int q.1, .int q.2])) (l.map adr) (l.map (pairOf h')) := by
      intro l
      induction l with
      | nil => intro _; exact .nil
      | cons v l ih =>
        intro hl
        obtain ⟨a, ha, rfl⟩ := hl v (List.mem_cons_self ..)
        exact .cons (ha' a ha) (ih fun u hu => hl u (List.mem_cons_of_mem _ hu))
    exact pr out outr
end
end CP

set_option Elab.async false
set_option linter.all false
set_option maxRecDepth 100000
set_option maxHeartbeats 4000000
set_option autoImplicit false
/-! data compared: lists of ints and of pairs of ints -/
namespace CP
open L2 PySem PyProof.Rows
section
variable {K : PySem.W.Frag} {H : Hp} {Q : VK}
theorem ints_dpA : ∀ xs : List Int, DpAll K H (xs.map V.int) (xs.map PyData.int)
  | [] => .nil
  | x :: xs => .cons (.int x) (ints_dpA xs)
theorem ints_lay : ∀ xs : List Int, PyData.canLayAll0 (xs.map PyData.int) = true ∧ PyData.depthAll (xs.map PyData.int) = 0
  | [] => ⟨by simp [PyData.canLayAll0], by simp [PyData.depthAll]⟩
  | x :: xs => by
    obtain ⟨h1, h2⟩ := ints_lay xs
    refine ⟨by simp [PyData.canLayAll0, PyData.canLay0, h1], ?_⟩
    simp only [List.map_cons, PyData.depthAll, PyData.depth]
    omega
theorem ints_shaped (xs : List Int) : SeqAt.shaped (.list (xs.map PyData.int)) = true := by
  obtain ⟨h1, h2⟩ := ints_lay xs
  refine Bool.and_eq_true_iff.mpr ⟨by simp only [PyData.canLay0]; exact h1, decide_eq_true ?_⟩
  simp only [PyData.depth]
  omega
theorem ints_ne {a b : Addr} {xs ys : List Int} (h : SqL K H a (xs.map V.int)) (h2 : SqL K H b (ys.map V.int)) (q : Q (.bl (!decide (xs = ys))) H) : rNeD K (.ref a) (.ref b) H Q := by
  refine ⟨_, _, .lst h (ints_dpA xs), .lst h2 (ints_dpA ys), ints_shaped xs, ints_shaped ys, ?_⟩
  show Q (.bl (!PyData.eqvAll (xs.map PyData.int) (ys.map PyData.int))) H
  rw [PySem.W.ked_eqvAll]
  exact q
theorem ints_eq {a b : Addr} {xs ys : List Int} (h : SqL K H a (xs.map V.int)) (h2 : SqL K H b (ys.map V.int)) (q : Q (.bl (decide (xs = ys))) H) : rEqD K (.ref a) (.ref b) H Q := by
  refine ⟨_, _, .lst h (ints_dpA xs), .lst h2 (ints_dpA ys), ints_shaped xs, ints_shaped ys, ?_⟩
  show Q (.bl (PyData.eqvAll (xs.map PyData.int) (ys.map PyData.int))) H
  rw [PySem.W.ked_eqvAll]
  exact q
/-! pairs -/
def pairD (q : Int × Int) : PyData := .tuple [.int q.1, .int q.2]
theorem pairD_dp {ts : List Addr} {qs : List (Int × Int)} (h : Paired (fun (t : Addr) (q : Int × Int) => H t = some (.tup [.int q.1, .int q.2])) ts qs) : DpAll K H (ts.map V.ref) (qs.map pairD) := by
  induction h with
  | nil => exact .nil
  | cons h _ ih => exact .cons (.tup (.of h) (.cons (.int _) (.cons (.int _) .nil))) ih
theorem pairs_dp {p : Addr} {qs : List (Int × Int)} (h : PairsAt H p qs) : Dp K H (.ref p) (.list (qs.map pairD)) := by
  obtain ⟨ts, e, h⟩ := h
  exact .lst (.of e) (pairD_dp h)
theorem pairs_same {H H' : Hp} {p : Addr} {qs : List (Int × Int)} (s : Same H H') (h : PairsAt H p qs) : PairsAt H' p qs := by
  obtain ⟨ts, e, h⟩ := h
  exact ⟨ts, CP.Same.to s e, pd_mono h fun _ _ z => CP.Same.to s z⟩
theorem pairD_lay : ∀ qs : List (Int × Int), PyData.canLayAll0 (qs.map pairD) = true ∧ PyData.depthAll (qs.map pairD) ≤ 1
  | [] => ⟨by simp [PyData.canLayAll0], by simp [PyData.depthAll]⟩
  | q :: qs => by
    obtain ⟨h1, h2⟩ := pairD_lay qs
    have h3 : (pairD q).canLay0 = true := by simp [pairD, PyData.canLay0, PyData.canLayAll0]
    have h4 : (pairD q).depth = 1 := by simp [pairD, PyData.depth, PyData.depthAll]
    refine ⟨by simp [PyData.canLayAll0, h1, h3], ?_⟩
    simp only [List.map_cons, PyData.depthAll]
    omega
theorem pairs_shaped (qs : List (Int × Int)) : SeqAt.shaped (.list (qs.map pairD)) = true := by
  obtain ⟨h1, h2⟩ := pairD_lay qs
  refine Bool.and_eq_true_iff.mpr ⟨by simp only [PyData.canLay0]; exact h1, decide_eq_true ?_⟩
  simp only [PyData.depth]
  omega
theorem pairs_ne {p p2 : Addr} {qs : List (Int × Int)} (h : PairsAt H p qs) (h2 : PairsAt H p2 qs) (q : Q (.bl false) H) : rNeD K (.ref p) (.ref p2) H Q := by
  refine ⟨_, _, pairs_dp h, pairs_dp h2, pairs_shaped qs, pairs_shaped qs, ?_⟩
  rw [SeqAt.eqv_refl _ (SeqAt.canLay_of_shaped (pairs_shaped qs))]
  exact q
theorem pairs_eq {p p2 : Addr} {qs : List (Int × Int)} (h : PairsAt H p qs) (h2 : PairsAt H p2 qs) (q : Q (.bl true) H) : rEqD K (.ref p) (.ref p2) H Q := by
  refine ⟨_, _, pairs_dp h, pairs_dp h2, pairs_shaped qs, pairs_shaped qs, ?_⟩
  rw [SeqAt.eqv_refl _ (SeqAt.canLay_of_shaped (pairs_shaped qs))]
  exact q
end
section
variable {K : PySem.W.Frag} {a : Addr} {g : TG} {tt : TT} {te : TE} {vs : List Nat} {σ : L2.St} {H1 : Hp} {D : Addr} {Qd : Hp → Prop}
/-- a comprehension over a list of pairs of ints -/
theorem lc_pairs {qs : List (Int × Int)} (f : Int × Int → Option V) (hD : H1 D = none) (h : PairsAt H1 a qs) (hz : qs.length < sizeLine)
    (hs : ∀ (t : Addr) (u v : Int) (H : Hp), (u, v) ∈ qs → Same H1 H → H t = some (.tup [.int u, .int v]) → Turn g tt te vs σ (fun _ x b => x = b) D H (.ref t) (f (u, v)))
    (hd : ∀ H, Same H1 H → H D = some (.lst (qs.filterMap f)) → Qd H) :
    ∃ W : Nat → Nat → Hp → Prop, (∃ m, W 0 m (upd H1 D (.lst []))) ∧ ∀ i m H, W i m H →
      ((Itl K a).stop i H ∧ Qd H) ∨ ((Itl K a).go i H ∧ ∃ Nx : Hp → Prop, (∀ H', Nx H' → ∃ m', m' < m ∧ W (i + 1) m' H') ∧ ∀ x H', (Itl K a).yld i H x H' → g x (wipe σ vs) H' fun σ2 H2 => wipe σ2 vs = wipe σ vs ∧ tt σ2 H2 fun b H3 =>
        if b = true then te σ2 H3 fun y H4 => ∃ acc, H4 D = some (.lst acc) ∧ acc.length < sizeLine ∧ Nx (upd H4 D (.lst (acc ++ [y]))) else Nx H3) := by
  obtain ⟨ts, e, pr⟩ := h
  have ln := pd_len pr
  refine lc_tell (β := V) (fun _ x b => x = b) (qs.map f) hD (.of e) (by rw [List.length_map, List.length_map, ln]) (by rw [List.length_map]; exact hz) (fun _ _ _ _ _ z => z) (fun i x o H hx ho s1 hacc => ?_) fun H acc s1 hacc pp => ?_
  · rw [List.getElem?_map] at hx
    cases et : ts[i]? with
    | none => rw [et] at hx; cases hx
    | some t =>
      rw [et] at hx
      cases hx
      obtain ⟨q, hq, ht⟩ := pd_get pr et
      rw [List.getElem?_map, hq] at ho
      cases ho
      exact hs t q.1 q.2 H (List.mem_of_getElem? hq) s1 (CP.Same.to s1 ht)
  · have ea := pd_eq pp
    rw [ea, List.filterMap_map] at hacc
    exact hd H s1 hacc
end
end CP

set_option Elab.async false
set_option linter.all false
set_option maxRecDepth 100000
set_option maxHeartbeats 4000000
set_option autoImplicit false
/-! two cells with one place: that the ones told are right -/
namespace CP
open L2 PySem PyProof.Rows
theorem restOf_perm {o l m : List Str} (h : restOf l o = some m) : l.Perm (o ++ m) := List.perm_iff_count.mpr fun w => by rw [restOf_count h w, List.count_append]; omega
theorem setAll_get {n : Int} : ∀ {ks : List Str} {v : List (Str × Int)} {k : Str}, getD (setAll v ks n) k = if k ∈ ks then some n else getD v k
  | [], v, k => rfl
  | x :: ks, v, k => by
    show getD (setAll (setD v x n) ks n) k = _
    rw [setAll_get, getD_setD]
    by_cases h : k ∈ ks
    · rw [if_pos h, if_pos (List.mem_cons_of_mem _ h)]
    · rw [if_neg h]
      by_cases e : x = k
      · rw [if_pos e, if_pos (by rw [e]; exact List.mem_cons_self ..)]
      · rw [if_neg e, if_neg (fun z => (List.mem_cons.mp z).elim (fun z => e z.symm) h)]
theorem prodF_same {f : Str → Int} {n : Int} : ∀ {l : List Str}, (∀ k ∈ l, f k = n) → prodF f l = n ^ l.length
  | [], _ => by rw [List.length_nil, Int.pow_zero]; rfl
  | k :: l, h => by
    rw [prodF_cons, h k (List.mem_cons_self ..), prodF_same fun x hx => h x (List.mem_cons_of_mem _ hx), List.length_cons, Int.pow_succ, Int.mul_comm]
theorem prodF_two {f : Str → Int} {l : List Str} (h : ∀ k ∈ l, 2 ≤ f k) (ne : l ≠ []) : 2 ≤ prodF f l := by
  obtain ⟨x, m, rfl⟩ := List.exists_cons_of_ne_nil ne
  have a := h x (List.mem_cons_self ..)
  have b := prodF_one (f := f) (l := m) fun k hk => by have := h k (List.mem_cons_of_mem _ hk); omega
  rw [prodF_cons]
  have := Int.mul_le_mul a b (by decide) (by omega)
  omega
/-! names apart -/
theorem ordGo_ne : ∀ {rs f : List Sd} {u v : Sd}, (∀ x ∈ f, x.2.1 ≠ [] ∧ x.1 ∉ rs.map (·.1)) → (rs.map (·.1)).Nodup → ordGo f rs = .inr (u, v) → u.1 ≠ v.1 ∧ u.2.1 ≠ [] ∧ v.2.1 ≠ []
  | [], f, u, v, _, _, h => by cases h
  | r :: rs, f, u, v, hf, nd, h => by
    obtain ⟨n1, n2⟩ := List.pairwise_cons.mp nd
    have hf' : ∀ x ∈ f, x.2.1 ≠ [] ∧ x.1 ∉ rs.map (·.1) := fun x hx => ⟨(hf x hx).1, fun z => (hf x hx).2 (List.mem_cons_of_mem _ z)⟩
    unfold ordGo at h
    by_cases e : r.2.1 = []
    · rw [if_pos e] at h
      exact ordGo_ne hf' n2 h
    · rw [if_neg e] at h
      split at h
      · rename_i w ws ew
        cases h
        have hw : u ∈ f := (List.mem_filter.mp (show u ∈ f.filter fun f => !aheadB f r && !aheadB r f by rw [ew]; exact List.mem_cons_self ..)).1
        exact ⟨fun z => (hf u hw).2 (by rw [z]; exact List.mem_cons_self ..), (hf u hw).1, e⟩
      · refine ordGo_ne (fun x hx => ?_) n2 h
        rcases List.mem_append.mp hx with z | z
        · rcases List.mem_append.mp z with z | z
          · exact hf' x (List.mem_of_mem_take z)
          · rw [List.mem_singleton.mp z]
            exact ⟨e, fun z => n1 _ z rfl⟩
        · exact hf' x (List.mem_of_mem_drop z)
/-! cells with one index alone -/
theorem cf_of {c : Sd → Int} {rows : List Sd} (nd : rows.Nodup) {r : Sd} (h : r ∈ rows) : cf rows (rows.map c) r = c r := by
  unfold cf
  have lt : rows.idxOf r < rows.length := List.idxOf_lt_length_iff.mpr h
  rw [List.getElem?_map, List.getElem?_eq_getElem lt, List.getElem_idxOf lt]
  rfl
theorem spot_zero {f : Str → Int} {c : Sd → Int} : ∀ {rows : List Sd}, (∀ r ∈ rows, c r = 0) → spotF f c rows = 0
  | [], _ => rfl
  | r :: rows, h => by
    have i := spot_zero (f := f) fun x hx => h x (List.mem_cons_of_mem _ hx)
    unfold spotF at i ⊢
    rw [Gr.spot_cons, h r (List.mem_cons_self ..), i]
    simp
theorem spot_lone {f : Str → Int} {n : Int} {u : Sd} : ∀ {rows : List Sd}, (rows.map (·.1)).Nodup → u ∈ rows → spotF f (fun r => if r.1 = u.1 then n else 0) rows = n * prodF f u.2.2
  | [], _, h => nomatch h
  | r :: rows, nd, h => by
    obtain ⟨n1, n2⟩ := List.pairwise_cons.mp nd
    show Gr.spot _ _ _ = _
    rw [Gr.spot_cons]
    rcases List.mem_cons.mp h with rfl | h
    · have := spot_zero (f := f) (c := fun r => if r.1 = u.1 then n else 0) (rows := rows) fun x hx => if_neg fun z => n1 x.1 (List.mem_map.mpr ⟨x, hx, rfl⟩) z.symm
      unfold spotF at this
      rw [if_pos rfl, this]
      simp
    · have := spot_lone (f := f) (n := n) n2 h
      unfold spotF at this
      rw [this, if_neg (fun z => n1 u.1 (List.mem_map.mpr ⟨u, h, rfl⟩) z)]
      simp
theorem lone_cell {f : Str → Int} {rows : List Sd} {u : Sd} {n : Int} (hR : Rows rows) (hu : u ∈ rows) (h0 : 0 ≤ n) (h1 : n < prodF f u.2.1) (hf : ∀ r ∈ rows, ∀ k ∈ r.2.1, 1 ≤ f k) : Cell f rows (loneM rows u.1 n) := by
  refine ⟨by unfold loneM; rw [List.length_map], fun r hr => ?_⟩
  unfold loneM
  rw [cf_of hR.nd hr]
  have p := prodF_one fun k hk => hf r hr k hk
  by_cases e : r.1 = u.1
  · rw [if_pos e]
    have : r = u := by
      have e1 := cf_of (c := fun r => if r.1 = u.1 then (1 : Int) else 0) hR.nd hr
      refine Classical.byContradiction fun ne => ?_
      obtain ⟨i, hi, ei⟩ := List.mem_iff_getElem.mp hr
      obtain ⟨j, hj, ej⟩ := List.mem_iff_getElem.mp hu
      have d := hR.dis
      have ij : i ≠ j := fun z => ne (by subst z; rw [← ei, ← ej])
      have di := List.pairwise_iff_getElem.mp d
      have li : i < (rows.map (·.1)).length := by rw [List.length_map]; exact hi
      have lj : j < (rows.map (·.1)).length := by rw [List.length_map]; exact hj
      rcases Nat.lt_or_gt_of_ne ij with l | l
      · exact di i j li lj l (by rw [List.getElem_map, List.getElem_map, ei, ej, e])
      · exact di j i lj li l (by rw [List.getElem_map, List.getElem_map, ei, ej, e])
    rw [this]
    exact ⟨h0, h1⟩
  · rw [if_neg e]
    exact ⟨Int.le_refl _, by omega⟩
theorem lone_spot {f : Str → Int} {rows : List Sd} {u : Sd} {n : Int} (hR : Rows rows) (hu : u ∈ rows) : spotL f rows (loneM rows u.1 n) = n * prodF f u.2.2 := by
  unfold loneM
  rw [spot_map, spot_lone hR.dis hu]
theorem lone_ne {rows : List Sd} {u v : Sd} {n m : Int} (hR : Rows rows) (hu : u ∈ rows) (ne : u.1 ≠ v.1) (n0 : n ≠ 0) : loneM rows u.1 n ≠ loneM rows v.1 m := fun e => by
  have a := congrArg (fun c => cf rows c u) e
  unfold loneM at a
  rw [cf_of hR.nd hu, cf_of hR.nd hu, if_pos rfl, if_neg ne] at a
  exact n0 a
/-! the values told -/
theorem Grown.ends2 {szs : List Str} {name : Str} {i : Nat} {v : List (Str × Int)} (h : Grown szs name i v) {l m : List Str} (hl : ∀ k ∈ l, k ∈ szs) (hm : ∀ k ∈ m, k ∈ szs) (c : m.count name < l.count name) (lm : m.length ≤ 12) (le : prodF (atD v) l ≤ prodF (atD v) m) : i ≤ 11 := by
  rw [h.prod hl, h.prod hm] at le
  refine Classical.byContradiction fun n => ?_
  have l1 : l.count name ≤ l.length := List.count_le_length
  have : m.length + i * m.count name < l.length + i * l.count name := by
    have : i * (m.count name + 1) ≤ i * l.count name := Nat.mul_le_mul_left _ c
    rw [Nat.mul_add, Nat.mul_one] at this
    omega
  have := two_lt this
  omega
theorem grow_res {szs one second : List Str} {name : Str} (hn : name ∈ szs) (hl : ∀ k ∈ one, k ∈ szs) (hm : ∀ k ∈ second, k ∈ szs) (c : second.count name < one.count name) (lm : second.length ≤ 12) :
    ∀ (n i : Nat) (v : List (Str × Int)), Grown szs name i v → i ≤ 12 → 13 ≤ i + n → ∃ j, j ≤ 12 ∧ Grown szs name j (grow one second name n v) ∧ ¬ prodF (atD (grow one second name n v)) one ≤ prodF (atD (grow one second name n v)) second
  | 0, i, v, _, h1, h2 => by omega
  | n + 1, i, v, g, h1, h2 => by
    rw [grow_step]
    by_cases le : prodF (atD v) one ≤ prodF (atD v) second
    · rw [if_pos le]
      have := g.ends2 hl hm c lm le
      exact grow_res hn hl hm c lm n (i + 1) _ (g.succ hn) (by omega) (by omega)
    · rw [if_neg le]
      exact ⟨i, h1, g, le⟩
structure ClashOk (rows : List Sd) (kv : List (Str × Int)) (c1 c2 : List Int) : Prop where
  keys : kv.map (·.1) = sizesM rows
  small : Small kv (sizesM rows)
  one : Cell (atD kv) rows c1
  two : Cell (atD kv) rows c2
  ne : c1 ≠ c2
  spot : spotL (atD kv) rows c1 = spotL (atD kv) rows c2
  low : ∀ n, n ∈ c1 ∨ n ∈ c2 → -(2 ^ 200) < n ∧ n < 2 ^ 200
theorem lone_low {rows : List Sd} {z : Str} {n : Int} (h : -(2 ^ 200) < n ∧ n < 2 ^ 200) : ∀ m ∈ loneM rows z n, -(2 ^ 200) < m ∧ m < 2 ^ 200 := fun m hm => by
  unfold loneM at hm
  obtain ⟨r, _, rfl⟩ := List.mem_map.mp hm
  split
  · exact h
  · decide
theorem clash2_ok {rows : List Sd} {one other : Sd} {second : List Str} (hR : Rows rows) (hu : one ∈ rows) (hv : other ∈ rows) (ne : one.1 ≠ other.1) (nv : other.2.1 ≠ []) {name : Str} (more : moreM one.2.1 second = some name)
    (l2 : second.length ≤ 12) (p : other.2.2.Perm (one.2.2 ++ second)) :
    ∃ kv c1 c2, clash2 rows (allTwo (sizesM rows)) one other second = some (kv, c1, c2) ∧ ClashOk rows kv c1 c2 := by
  obtain ⟨m1, m2⟩ := more_prop more
  have sub : ∀ {r : Sd}, r ∈ rows → ∀ k ∈ r.2.1, k ∈ sizesM rows := fun hr k hk => mem_sizes hr (List.mem_append_left _ hk)
  have sub2 : ∀ k ∈ second, k ∈ sizesM rows := fun k hk => mem_sizes hv (List.mem_append_right _ (p.mem_iff.mpr (List.mem_append_right _ hk)))
  obtain ⟨j, j12, g, nle⟩ := grow_res (sub hu name m1) (sub hu) sub2 m2 l2 100 0 _ (grown_zero (sizesM rows) name) (by omega) (by omega)
  refine ⟨_, _, _, by unfold clash2; rw [more], ?_⟩
  generalize grow one.2.1 second name 100 (allTwo (sizesM rows)) = w at g nle ⊢
  have v2 : ∀ k ∈ sizesM rows, 2 ≤ atD w k ∧ atD w k ≤ 2 ^ 13 := fun k hk => by
    rw [g.at_ hk]
    constructor
    · exact two_le (a := 1) (by split <;> omega)
    · exact two_le (by split <;> omega)
  have s2 : prodF (atD w) second < 2 ^ 200 ∧ 1 ≤ prodF (atD w) second := by
    rw [g.prod sub2]
    have c : second.count name ≤ second.length := List.count_le_length
    have : j * second.count name ≤ 12 * 12 := Nat.mul_le_mul j12 (by omega)
    exact ⟨two_lt (by omega), two_le (a := 0) (by omega)⟩
  have f1 : ∀ r ∈ rows, ∀ k ∈ r.2.1, 1 ≤ atD w k := fun r hr k hk => by have := (v2 k (sub hr k hk)).1; omega
  have nle := Int.lt_of_not_ge nle
  have o2 := prodF_two (f := atD w) (l := other.2.1) (fun k hk => (v2 k (sub hv k hk)).1) nv
  refine ⟨g.1, fun k hk => ⟨by rw [g.2 k hk]; rfl, by have := (v2 k hk).1; omega, (v2 k hk).2⟩, lone_cell hR hu (by omega) nle f1, lone_cell hR hv (by omega) (by omega) f1, lone_ne hR hu ne (by omega), ?_, fun n hn => ?_⟩
  · rw [lone_spot hR hu, lone_spot hR hv, prodF_perm p, prodF_append, Int.one_mul, Int.mul_comm]
  · rcases hn with hn | hn
    · exact lone_low ⟨by omega, s2.1⟩ n hn
    · exact lone_low ⟨by decide, by decide⟩ n hn
/-- where no order stands, what clash tells is right -/
theorem clash_ok {rows : List Sd} {one other : Sd} (hR : Rows rows) (low : ∀ r ∈ rows, r.2.1.length ≤ 12 ∧ r.2.2.length ≤ 12) (e : orderM rows = .inr (one, other)) : ∃ kv c1 c2, clashM rows = some (kv, c1, c2) ∧ ClashOk rows kv c1 c2 := by
  obtain ⟨hu, hv⟩ := order_inr e
  obtain ⟨ne, nu, nv⟩ := ordGo_ne (f := []) (by simp) hR.dis e
  obtain ⟨a1, a2⟩ := ordGo_apart e
  obtain ⟨⟨first, h1⟩, ⟨second, h2⟩⟩ := shared_rest one.2.2 other.2.2
  have r1 : restOf other.2.2 (one.2.1 ++ one.2.2) = none := by
    unfold aheadB at a1
    cases k : restOf other.2.2 (one.2.1 ++ one.2.2) with
    | none => rfl
    | some _ => rw [k] at a1; cases a1
  have r2 : restOf one.2.2 (other.2.1 ++ other.2.2) = none := by
    unfold aheadB at a2
    cases k : restOf one.2.2 (other.2.1 ++ other.2.2) with
    | none => rfl
    | some _ => rw [k] at a2; cases a2
  have l1 := restOf_len h1
  have l2 := restOf_len h2
  have b1 := (low one hu).2
  have b2 := (low other hv).2
  have p1 := restOf_perm h1
  have p2 := restOf_perm h2
  unfold clashM
  rw [e]
  dsimp only
  rw [h1, h2]
  dsimp only
  have sub : ∀ {r : Sd}, r ∈ rows → ∀ k ∈ r.2.1, k ∈ sizesM rows := fun hr k hk => mem_sizes hr (List.mem_append_left _ hk)
  by_cases n1 : first = []
  · rw [if_neg (fun z => z n1)]
    subst n1
    obtain ⟨name, more⟩ := more_some r1 h1 h2
    rw [List.append_nil] at p1
    exact clash2_ok hR hu hv ne nv more (by omega) (p2.trans (p1.symm.append_right second))
  · rw [if_pos n1]
    by_cases n2 : second = []
    · rw [if_neg (fun z => z n2)]
      subst n2
      obtain ⟨name, more⟩ := more_some' r2 h2 h1
      rw [List.append_nil] at p2
      exact clash2_ok hR hv hu (Ne.symm ne) nu more (by omega) (p1.trans (p2.symm.append_right first))
    · rw [if_pos n2]
      refine ⟨_, _, _, rfl, ?_⟩
      have f1 : ∀ k ∈ first, k ∈ sizesM rows := fun k hk => mem_sizes hu (List.mem_append_right _ (p1.mem_iff.mpr (List.mem_append_right _ hk)))
      have f2 : ∀ k ∈ second, k ∈ sizesM rows := fun k hk => mem_sizes hv (List.mem_append_right _ (p2.mem_iff.mpr (List.mem_append_right _ hk)))
      have apart : ∀ k ∈ first, k ∉ second := fun k hk hk2 => by
        have c1 := restOf_count h1 k
        have c2 := restOf_count h2 k
        have q1 := List.count_pos_iff.mpr hk
        have q2 := List.count_pos_iff.mpr hk2
        have s := shared_count one.2.2 other.2.2 k
        unfold sharedM at c1 c2
        omega
      have kk : (setAll (setAll (allTwo (sizesM rows)) first (2 ^ second.length)) second (2 ^ first.length)).map (·.1) = sizesM rows := by
        rw [setAll_keys, setAll_keys, allTwo_keys]
        · rw [allTwo_keys]; exact f1
        · rw [setAll_keys, allTwo_keys]
          · exact f2
          · rw [allTwo_keys]; exact f1
      have gv : ∀ k ∈ sizesM rows, getD (setAll (setAll (allTwo (sizesM rows)) first (2 ^ second.length)) second (2 ^ first.length)) k = some (if k ∈ second then 2 ^ first.length else if k ∈ first then 2 ^ second.length else 2) := fun k hk => by
        rw [setAll_get, setAll_get, allTwo_get hk]
        split
        · rfl
        · split <;> rfl
      generalize setAll (setAll (allTwo (sizesM rows)) first (2 ^ second.length)) second (2 ^ first.length) = w at kk gv ⊢
      have e1 : 1 ≤ first.length := List.length_pos_iff.mpr n1
      have e2 : 1 ≤ second.length := List.length_pos_iff.mpr n2
      have av : ∀ k ∈ sizesM rows, atD w k = 2 ^ (if k ∈ second then first.length else if k ∈ first then second.length else 1) := fun k hk => by
        unfold atD
        rw [gv k hk]
        show (if k ∈ second then (2 : Int) ^ first.length else if k ∈ first then 2 ^ second.length else 2) = _
        split
        · rfl
        · split <;> rfl
      have v2 : ∀ k ∈ sizesM rows, 2 ≤ atD w k ∧ atD w k ≤ 2 ^ 13 := fun k hk => by
        rw [av k hk]
        have x1 : 1 ≤ (if k ∈ second then first.length else if k ∈ first then second.length else 1) := by
          split
          · exact e1
          · split
            · exact e2
            · exact Nat.le_refl _
        have x2 : (if k ∈ second then first.length else if k ∈ first then second.length else 1) ≤ 13 := by
          split
          · omega
          · split <;> omega
        exact ⟨two_le (a := 1) x1, two_le x2⟩
      have s1 : prodF (atD w) first = 2 ^ (second.length * first.length) := by
        rw [prodF_same (n := 2 ^ second.length) fun k hk => by rw [av k (f1 k hk), if_neg (apart k hk), if_pos hk], ← Int.pow_mul]
      have s2 : prodF (atD w) second = 2 ^ (second.length * first.length) := by
        rw [prodF_same (n := 2 ^ first.length) fun k hk => by rw [av k (f2 k hk), if_pos hk], ← Int.pow_mul, Nat.mul_comm]
      have g1 : ∀ r ∈ rows, ∀ k ∈ r.2.1, 1 ≤ atD w k := fun r hr k hk => by have := (v2 k (sub hr k hk)).1; omega
      have o1 := prodF_two (f := atD w) (l := one.2.1) (fun k hk => (v2 k (sub hu k hk)).1) nu
      have o2 := prodF_two (f := atD w) (l := other.2.1) (fun k hk => (v2 k (sub hv k hk)).1) nv
      refine ⟨kk, fun k hk => ⟨by rw [gv k hk]; rfl, by have := (v2 k hk).1; omega, (v2 k hk).2⟩, lone_cell hR hu (by omega) (by omega) g1, lone_cell hR hv (by omega) (by omega) g1, lone_ne hR hu ne (by omega), ?_, fun n hn => ?_⟩
      · rw [lone_spot hR hu, lone_spot hR hv, prodF_perm p1, prodF_perm p2, prodF_append, prodF_append, s1, s2]
      · rcases hn with hn | hn
        · exact lone_low ⟨by decide, by decide⟩ n hn
        · exact lone_low ⟨by decide, by decide⟩ n hn
end CP
namespace CP
open L2 PySem PyProof.Rows
def oSortD : List V → Hp → VK → Prop := fun xs H Q => ∃ (a : Addr) (kvs : List (Key × V)) (ks : List Str), xs = [.ref a] ∧ Rd H a (.dK kvs) ∧ kvs.map (·.1) = ks.map Sum.inr ∧ ks.length < 64 ∧ ∀ ys p, ys.Perm ks → sortedS ys = true → H p = none → Q (.ref p) (upd H p (.lst (ys.map V.str)))
theorem cr_sortD {X : Cx} (hc : X.calm = true) : CallR X (.builtin "sorted") oSortD := call_sortedD hc
section
variable {K : PySem.W.Frag} {σ : L2.St} {H : Hp} {Q : VK} {ta : TE} {a b : Addr}
theorem r_sortD {kv : List (Str × Int)} (h : H a = some (.dK (dV kv))) (nd : (kv.map (·.1)).Nodup) (l : kv.length < 64) (q : ∀ p H', H p = none → Same H H' → H' p = some (.lst (strL (sset (kv.map (·.1))))) → Q (.ref p) H') : oSortD [.ref a] H Q :=
  ⟨a, _, kv.map (·.1), rfl, .inl h, by unfold dV; rw [List.map_map, List.map_map]; rfl, by rw [List.length_map]; exact l, fun ys p hp hs p0 => by
    have e : ys = sset (kv.map (·.1)) := sset_of hs (hp.nodup_iff.mpr nd) fun x => hp.mem_iff
    rw [e]
    exact q p _ p0 (same_new p0) upd_same⟩
theorem r_lenSet (q : ta σ H fun x H1 => ∃ (l : Addr) (ns : List Int), x = .ref l ∧ SqL K H1 l (ns.map V.int) ∧ ns.Nodup ∧ ns.length ≤ 4000 ∧ Q (.int (ns.length : Nat)) H1) : RZ.tLenSetI K ta σ H Q := q
theorem r_neXB {x y : Bool} (q : Q (.bl (x != y)) H) : rNeX K (.bl x) (.bl y) H Q := .inl (r_neB q)
theorem r_eqXB {x y : Bool} (q : Q (.bl (x == y)) H) : rEqX K (.bl x) (.bl y) H Q := .inl (r_eqB q)
theorem ints_eqX {xs ys : List Int} (h : SqL K H a (intL xs)) (h2 : SqL K H b (intL ys)) (q : Q (.bl (decide (xs = ys))) H) : rEqX K (.ref a) (.ref b) H Q := .inr (.inl (ints_eq h h2 q))
theorem ints_neX {xs ys : List Int} (h : SqL K H a (intL xs)) (h2 : SqL K H b (intL ys)) (q : Q (.bl (!decide (xs = ys))) H) : rNeX K (.ref a) (.ref b) H Q := .inr (.inl (ints_ne h h2 q))
theorem r_dclr {kvs : List (Key × V)} (h : H a = some (.dK kvs)) (q : ∀ H', SB a H H' → H' a = some (.dK []) → Q .non H') : rDClear (.ref a) [] H Q := ⟨a, kvs, rfl, rfl, h, q _ sb_upd upd_same⟩
theorem r_lclr {xs : List V} (h : H a = some (.lst xs)) (q : ∀ H', SB a H H' → H' a = some (.lst []) → Q .non H') : rClear (.ref a) [] H Q := ⟨a, xs, rfl, rfl, h, q _ sb_upd upd_same⟩
end
theorem sset_self {rows : List Sd} : sset (sizesM rows) = sizesM rows := (sset_eq (sizes_nd rows) (sset_pw _) fun x => Iff.rfl).symm
/-- the same table, its products not sorted -/
theorem sizes_srow (rows : List Sd) : sizesM (rows.map srow) = sizesM rows := sset_congr fun w => by
  constructor
  · intro h
    obtain ⟨u, hu, hw⟩ := List.mem_flatMap.mp h
    obtain ⟨v, hv, rfl⟩ := List.mem_map.mp hu
    exact List.mem_flatMap.mpr ⟨v, hv, (List.mem_append.mp hw).elim (fun z => List.mem_append_left _ (mem_srt.mp z)) fun z => List.mem_append_right _ (mem_srt.mp z)⟩
  · intro h
    obtain ⟨v, hv, hw⟩ := List.mem_flatMap.mp h
    exact List.mem_flatMap.mpr ⟨srow v, List.mem_map.mpr ⟨v, hv, rfl⟩, (List.mem_append.mp hw).elim (fun z => List.mem_append_left _ (mem_srt.mpr z)) fun z => List.mem_append_right _ (mem_srt.mpr z)⟩
theorem prodF_srt {f : Str → Int} {l : List Str} : prodF f (srt l) = prodF f l := prodF_perm (srt_perm l)
theorem spotL_srow {f : Str → Int} : ∀ {rows : List Sd} {c : List Int}, spotL f (rows.map srow) c = spotL f rows c
  | [], c => rfl
  | r :: rows, [] => rfl
  | r :: rows, x :: c => by
    have i := spotL_srow (f := f) (rows := rows) (c := c)
    unfold spotL at *
    rw [List.map_cons, List.zip_cons_cons, List.zip_cons_cons, List.map_cons, List.map_cons, List.sum_cons, List.sum_cons, i]
    congr 2
    exact prodF_srt
/-- a cell by its list: each index within its size -/
def CellL (f : Str → Int) (rows : List Sd) (cell : List Int) : Prop := cell.length = rows.length ∧ ∀ (i : Nat) (r : Sd) (n : Int), rows[i]? = some r → cell[i]? = some n → 0 ≤ n ∧ n < prodF f r.2.1
theorem cell_l {f : Str → Int} {rows : List Sd} {cell : List Int} (nd : rows.Nodup) (h : Cell f rows cell) : CellL f rows cell := by
  refine ⟨h.1, fun i r n hr hn => ?_⟩
  obtain ⟨hi, rfl⟩ := List.getElem?_eq_some_iff.mp hr
  have := h.2 _ (List.getElem_mem hi)
  unfold cf at this
  rw [idx_get nd hi, hn] at this
  exact this
theorem cell_of_l {f : Str → Int} {rows : List Sd} {cell : List Int} (nd : rows.Nodup) (h : CellL f rows cell) : Cell f rows cell := by
  refine ⟨h.1, fun r hr => ?_⟩
  obtain ⟨i, hi, rfl⟩ := List.mem_iff_getElem.mp hr
  have hc : i < cell.length := by have := h.1; omega
  have := h.2 i _ _ (List.getElem?_eq_getElem hi) (List.getElem?_eq_getElem hc)
  unfold cf
  rw [idx_get nd hi, List.getElem?_eq_getElem hc]
  exact this
theorem cellL_srow {f : Str → Int} {rows : List Sd} {cell : List Int} : CellL f (rows.map srow) cell ↔ CellL f rows cell := by
  unfold CellL
  rw [List.length_map]
  refine and_congr Iff.rfl ⟨fun h i r n hr hn => ?_, fun h i r n hr hn => ?_⟩
  · have := h i (srow r) n (by rw [List.getElem?_map, hr]; rfl) hn
    rwa [show (srow r).2.1 = srt r.2.1 from rfl, prodF_srt] at this
  · rw [List.getElem?_map] at hr
    cases e : rows[i]? with
    | none => rw [e] at hr; cases hr
    | some s =>
      rw [e] at hr
      cases hr
      have := h i s n e hn
      rw [show (srow s).2.1 = srt s.2.1 from rfl, prodF_srt]
      exact this
end CP
namespace CP
open L2 PySem PyProof.Rows
section
variable {H : Hp} {Q : VK} {a : Addr}
theorem r_rep {xs : List V} {k : Int} (h : H a = some (.lst xs)) (h0 : 0 ≤ k) (h1 : k < 2 ^ 63) (hz : xs.length * k.toNat ≤ sizeLine) (q : ∀ p H', H p = none → Same H H' → H' p = some (.lst ((List.replicate k.toNat xs).flatten)) → Q (.ref p) H') : rRep (.ref a) (.int k) H Q :=
  ⟨a, k, xs, rfl, rfl, h, by omega, h1, hz, fun p hp => q p _ hp (same_new hp) upd_same⟩
end
theorem rows_by {rows : List Sd} (h : (rows.isEmpty = false ∧ rows.length ≤ 20 ∧ (rows.all fun r => letB r.1 && r.2.1.all letB && r.2.2.all letB && decide (r.2.1.length ≤ 30) && decide (r.2.2.length ≤ 30)) = true ∧ (rows.map (·.1)).Nodup ∧ (rows.all fun r => (r.2.1 ++ r.2.2).all fun x => decide (x ∉ rows.map (·.1))) = true)) : Rows rows := by
  obtain ⟨h1, h2, h3, h4, h5⟩ := h
  rw [List.all_eq_true] at h3 h5
  have h3' : ∀ r ∈ rows, letB r.1 = true ∧ Lets r.2.1 ∧ Lets r.2.2 := fun r hr => by
    have := h3 r hr
    simp only [Bool.and_eq_true, List.all_eq_true, decide_eq_true_eq] at this
    exact ⟨this.1.1.1.1, ⟨this.1.1.1.2, this.1.2⟩, ⟨this.1.1.2, this.2⟩⟩
  refine ⟨fun z => (by rw [z] at h1; cases h1), h2, fun r hr => (h3' r hr).1, fun r hr => (h3' r hr).2.1, fun r hr => (h3' r hr).2.2, h4, fun r hr x hx => ?_⟩
  have := h5 r hr
  rw [List.all_eq_true] at this
  exact of_decide_eq_true (this x hx)
theorem apart_inr {rows : List Sd} (h : ¬ (rows.filter fun r => decide (r.2.1 ≠ [])).Pairwise Comp) : ∃ u v, orderM (rows.map srow) = .inr (u, v) := by
  cases e : orderM (rows.map srow) with
  | inl fs => exact absurd (order_iff.mp ⟨fs, e⟩) h
  | inr z => exact ⟨z.1, z.2, rfl⟩
theorem low_srow {rows : List Sd} (h : ∀ r ∈ rows, r.2.1.length ≤ 12 ∧ r.2.2.length ≤ 12) : ∀ r ∈ rows.map srow, r.2.1.length ≤ 12 ∧ r.2.2.length ≤ 12 := fun u hu => by
  obtain ⟨v, hv, rfl⟩ := List.mem_map.mp hu
  have := h v hv
  exact ⟨by show (srt v.2.1).length ≤ 12; rw [srt_len]; omega, by show (srt v.2.2).length ≤ 12; rw [srt_len]; omega⟩
theorem sizes_len2 (rows : List Sd) : (sizesM rows).length ≤ (ltrs rows).length := sset_len _
end CP

set_option Elab.async false
set_option linter.all false
set_option maxRecDepth 100000
set_option maxHeartbeats 4000000
set_option autoImplicit false
/-! rows while a purse is drawn from -/
namespace CP
open L2 PySem PyProof.Rows
theorem with_rest {t : TS} {D : Ends} {σ : L2.St} {H : Hp} (P : L2.St → Hp → Prop) (rest : ∀ σ H', P σ H' → D.nx σ H') (main : (∀ σ H', P σ H' → D.nx σ H') → t D σ H) : t D σ H := main rest
section
variable {H H' : Hp} {p : Addr} {x y z : Int}
theorem purse_txt (hp : H p = some (.lst [.int x, .int y, .int z])) {a : Addr} {l : List Str} (h : H a = some (.lst (strL l))) : a ≠ p := fun e => by
  rw [e, hp] at h
  have := Option.some.inj h
  cases l with
  | nil => cases this
  | cons _ _ => cases this
theorem side_sb (hp : H p = some (.lst [.int x, .int y, .int z])) (s : SB p H H') {v : V} {r : Sd} (h : SideAt H v r) : SideAt H' v r := by
  obtain ⟨t, a, b, rfl, h1, h2, h3⟩ := h
  exact ⟨t, a, b, rfl, s _ _ (fun e => by rw [e, hp] at h1; cases h1) h1, s _ _ (purse_txt hp h2) h2, s _ _ (purse_txt hp h3) h3⟩
theorem rows_ne (hp : H p = some (.lst [.int x, .int y, .int z])) {q : Addr} {rows : List Sd} (h : RowsAt H q rows) : q ≠ p := by
  obtain ⟨vs, hq, pr⟩ := h
  intro e
  rw [e, hp] at hq
  cases hq
  cases pr with
  | cons w _ =>
    obtain ⟨t, a, b, e, _⟩ := w
    cases e
theorem rows_sb (hp : H p = some (.lst [.int x, .int y, .int z])) (s : SB p H H') {q : Addr} {rows : List Sd} (h : RowsAt H q rows) : RowsAt H' q rows := by
  have n := rows_ne hp h
  obtain ⟨vs, hq, pr⟩ := h
  exact ⟨vs, s _ _ n hq, pd_mono pr fun _ _ w => side_sb hp s w⟩
theorem tab_sb (hp : H p = some (.lst [.int x, .int y, .int z])) (s : SB p H H') {C o : Addr} {rows : List Sd} (h : TabAt C H o rows) : TabAt C H' o rows := by
  obtain ⟨dx, q, ho, hr⟩ := h
  exact ⟨dx, q, s _ _ (fun e => by rw [e, hp] at ho; cases ho) ho, rows_sb hp s hr⟩
/-- one side exchanged for another -/
theorem rows_set {q t a b : Addr} {rows : List Sd} {vs : List V} {j : Nat} {r : Sd} (hq : H q = some (.lst vs)) (pr : Paired (SideAt H) vs rows) (hj : j < rows.length) (ht : H t = some (.tup [.str r.1, .ref a, .ref b])) (ha : H a = some (.lst (strL r.2.1))) (hb : H b = some (.lst (strL r.2.2)))
    (s : SB q H H') (h' : H' q = some (.lst (vs.set j (.ref t)))) : RowsAt H' q (rows.set j r) := by
  have txt : ∀ {c : Addr} {l : List Str}, H c = some (.lst (strL l)) → c ≠ q := fun {c l} h e => by
    rw [e, hq] at h
    have e2 : vs = strL l := by injection (Option.some.inj h)
    have hv : j < vs.length := by rw [pd_len pr]; exact hj
    obtain ⟨u, hu, z⟩ := pd_get pr (List.getElem?_eq_getElem hv)
    obtain ⟨t2, a2, b2, e3, _⟩ := z
    have m : vs[j] ∈ strL l := by rw [← e2]; exact List.getElem_mem hv
    obtain ⟨k, _, e4⟩ := List.mem_map.mp m
    rw [e3] at e4
    cases e4
  have tup : ∀ {c : Addr} {ws : List V}, H c = some (.tup ws) → c ≠ q := fun {c ws} h e => by
    rw [e, hq] at h
    cases h
  have side : ∀ {v : V} {u : Sd}, SideAt H v u → SideAt H' v u := fun {v u} h => by
    obtain ⟨t2, a2, b2, rfl, h1, h2, h3⟩ := h
    exact ⟨t2, a2, b2, rfl, s _ _ (tup h1) h1, s _ _ (txt h2) h2, s _ _ (txt h3) h3⟩
  refine ⟨_, h', ?_⟩
  have new : SideAt H' (.ref t) r := side ⟨t, a, b, rfl, ht, ha, hb⟩
  clear hq h' txt tup ht ha hb
  induction pr generalizing j with
  | nil => exact absurd hj (Nat.not_lt_zero _)
  | cons w pr ih =>
    cases j with
    | zero => exact .cons new (pd_mono pr fun _ _ z => side z)
    | succ j => exact .cons (side w) (ih (by simpa using hj))
end
theorem Drawn.set {rows : List Sd} (h : Drawn rows) {j : Nat} {r : Sd} (hr : rows[j]? = some r) {l m : List Str} (hl : ∀ w ∈ l, w ∈ r.2.1) (ll : l.length ≤ r.2.1.length) (hm : ∀ w ∈ m, w ∈ r.2.2) (lm : m.length ≤ r.2.2.length) : Drawn (rows.set j (r.1, l, m)) := by
  have rm := List.mem_of_getElem? hr
  have all : ∀ u ∈ rows.set j (r.1, l, m), u ∈ rows ∨ u = (r.1, l, m) := fun u hu => List.mem_or_eq_of_mem_set hu
  refine ⟨fun u hu => ?_, fun u hu => ?_, fun u hu => ?_⟩
  · rcases all u hu with z | rfl
    · exact h.name u z
    · exact h.name r rm
  · rcases all u hu with z | rfl
    · exact h.size u z
    · exact ⟨fun w hw => (h.size r rm).1 w (hl w hw), by have := (h.size r rm).2; show l.length ≤ 3; omega⟩
  · rcases all u hu with z | rfl
    · exact h.step u z
    · exact ⟨fun w hw => (h.step r rm).1 w (hm w hw), by have := (h.step r rm).2; show m.length ≤ 6; omega⟩
theorem names_set {rows : List Sd} {j : Nat} {r : Sd} (hr : rows[j]? = some r) {l m : List Str} : (rows.set j (r.1, l, m)).map (·.1) = rows.map (·.1) := by
  obtain ⟨hj, e⟩ := List.getElem?_eq_some_iff.mp hr
  rw [List.map_set]
  refine List.ext_getElem (by simp) fun i h1 h2 => ?_
  rw [List.getElem_set]
  split
  · rename_i e2
    subst e2
    rw [List.getElem_map, e]
  · rfl
theorem Drawn.perm {rows ss : List Sd} (h : Drawn rows) (p : ss.Perm rows) : Drawn ss := ⟨fun r hr => h.name r (p.mem_iff.mp hr), fun r hr => h.size r (p.mem_iff.mp hr), fun r hr => h.step r (p.mem_iff.mp hr)⟩
/-- a list of sides in another order -/
theorem pd_perm {α β : Type} {R : α → β → Prop} {xs ys : List α} (p : ys.Perm xs) : ∀ {zs : List β}, Paired R xs zs → ∃ ws, Paired R ys ws ∧ ws.Perm zs := by
  induction p with
  | nil => intro zs h; exact ⟨zs, h, .refl _⟩
  | cons x _ ih =>
    intro zs h
    cases h with
    | cons a b =>
      obtain ⟨ws, h1, h2⟩ := ih b
      exact ⟨_ :: ws, .cons a h1, h2.cons _⟩
  | swap x y l =>
    intro zs h
    cases h with
    | cons a b =>
      cases b with
      | cons c d => exact ⟨_ :: _ :: _, .cons c (.cons a d), .swap _ _ _⟩
  | trans _ _ i1 i2 =>
    intro zs h
    obtain ⟨ws, h1, h2⟩ := i2 h
    obtain ⟨us, h3, h4⟩ := i1 h1
    exact ⟨us, h3, h4.trans h2⟩
theorem Drawn.flat {rows : List Sd} (h : Drawn rows) (l : rows.length ≤ 8) : (rows.flatMap fun r => r.2.1).length ≤ 24 := by
  have : ∀ {l : List Sd}, (∀ r ∈ l, r.2.1.length ≤ 3) → (l.flatMap fun r => r.2.1).length ≤ 3 * l.length := by
    intro l
    induction l with
    | nil => intro _; exact Nat.zero_le _
    | cons r l ih =>
      intro hl
      have a := hl r (List.mem_cons_self ..)
      have b := ih fun x hx => hl x (List.mem_cons_of_mem _ hx)
      rw [List.flatMap_cons, List.length_append, List.length_cons]
      omega
  have := this fun r hr => (h.size r hr).2
  omega
theorem sizeW_few {l : List Str} (nd : l.Nodup) (h : ∀ x ∈ l, x ∈ sizeW) : l.length ≤ 8 := List.Nodup.length_le_of_subset nd h
theorem Drawn.sizes {rows : List Sd} (h : Drawn rows) : (sizesM rows).length ≤ 8 := sizeW_few (sizes_nd rows) fun x hx => by
  obtain ⟨r, hr, hw⟩ := List.mem_flatMap.mp (mem_ltrs.mp hx)
  exact (List.mem_append.mp hw).elim ((h.size r hr).1 x) ((h.step r hr).1 x)
end CP
namespace CP
open L2 PySem PyProof.Rows
theorem ints_inj {l m : List Int} (h : l.map V.int = m.map V.int) : l = m := List.map_inj_right (f := V.int) (fun _ _ e => by injection e) |>.mp h
theorem chain_inj {kv : List (Str × Int)} {rows fs : List Sd} (hR : Rows rows) (e : orderM (rows.map srow) = .inl fs) (hk : Small kv (ltrs rows)) : ∀ c1 c2, CellL (atD kv) rows c1 → CellL (atD kv) rows c2 → spotL (atD kv) rows c1 = spotL (atD kv) rows c2 → c1 = c2 := by
  intro c1 c2 h1 h2 es
  obtain ⟨p, q⟩ := order_chain e
  have k1 := cell_of_l hR.srow.nd (cellL_srow.mpr h1)
  have k2 := cell_of_l hR.srow.nd (cellL_srow.mpr h2)
  refine cell_inj hR.srow p q (fun r hr k hk' => ?_) k1 k2 ?_
  · obtain ⟨u, hu, rfl⟩ := List.mem_map.mp hr
    refine hk.f1 u hu k ?_
    rcases List.mem_append.mp hk' with z | z
    · exact List.mem_append_left _ (mem_srt.mp z)
    · exact List.mem_append_right _ (mem_srt.mp z)
  · rw [← spot_eq hR.srow.nd k1.1, ← spot_eq hR.srow.nd k2.1, spotL_srow, spotL_srow]
    exact es
theorem small_of {kv : List (Str × Int)} {rows : List Sd} {m : Int} (kn : (kv.map (·.1)).Nodup) (km : ∀ k, k ∈ kv.map (·.1) ↔ k ∈ sizesM rows) (kb : ∀ u ∈ kv, 1 ≤ u.2 ∧ u.2 ≤ m) (hm : m ≤ 2 ^ 13) : Small kv (ltrs rows) := fun k hk => by
  obtain ⟨u, hu, e⟩ := List.mem_map.mp ((km k).mpr (mem_ltrs.mpr hk))
  have g := getD_mem kn hu
  have b := kb u hu
  subst e
  unfold atD
  rw [g]
  exact ⟨rfl, b.1, Int.le_trans b.2 hm⟩
/-- the products turned about -/
def rrow (r : Sd) : Sd := (r.1, r.2.1.reverse, r.2.2.reverse)
theorem Rows.rrow {rows : List Sd} (h : Rows rows) : Rows (rows.map rrow) := by
  have e : (rows.map CP.rrow).map (·.1) = rows.map (·.1) := by rw [List.map_map]; rfl
  refine ⟨fun z => h.ne (List.map_eq_nil_iff.mp z), by rw [List.length_map]; exact h.few, fun r hr => ?_, fun r hr => ?_, fun r hr => ?_, by rw [e]; exact h.dis, fun r hr x hx => ?_⟩
  · obtain ⟨u, hu, rfl⟩ := List.mem_map.mp hr; exact h.name u hu
  · obtain ⟨u, hu, rfl⟩ := List.mem_map.mp hr; exact (h.size u hu).perm (List.reverse_perm _)
  · obtain ⟨u, hu, rfl⟩ := List.mem_map.mp hr; exact (h.step u hu).perm (List.reverse_perm _)
  · obtain ⟨u, hu, rfl⟩ := List.mem_map.mp hr
    rw [e]
    refine h.out u hu x ?_
    rcases List.mem_append.mp hx with z | z
    · exact List.mem_append_left _ (List.mem_reverse.mp z)
    · exact List.mem_append_right _ (List.mem_reverse.mp z)
theorem srow_rrow (rows : List Sd) : (rows.map rrow).map srow = rows.map srow := by
  rw [List.map_map]
  refine List.map_congr_left fun r _ => ?_
  show (r.1, srt r.2.1.reverse, srt r.2.2.reverse) = (r.1, srt r.2.1, srt r.2.2)
  rw [srt_congr (List.reverse_perm r.2.1), srt_congr (List.reverse_perm r.2.2)]
theorem strL_rev (l : List Str) : (strL l).reverse = strL l.reverse := by unfold strL; rw [List.map_reverse]
end CP

set_option Elab.async false
set_option linter.all false
set_option maxRecDepth 100000
set_option maxHeartbeats 4000000
set_option autoImplicit false
/-! sides with any number of products -/
namespace CP
open L2 PySem PyProof.Rows
abbrev Ps := Str × List (List Str)
def TxtAt (H : Hp) (v : V) (l : List Str) : Prop := ∃ a, v = .ref a ∧ H a = some (.lst (strL l))
theorem TxtAt.mono {H H' : Hp} {v : V} {l : List Str} (h : TxtAt H v l) (s : Same H H') : TxtAt H' v l := by
  obtain ⟨a, e, h1⟩ := h
  exact ⟨a, e, s _ _ h1⟩
def PartAt (H : Hp) (v : V) (r : Ps) : Prop := ∃ t us, v = .ref t ∧ H t = some (.tup (.str r.1 :: us)) ∧ Paired (TxtAt H) us r.2
theorem PartAt.mono {H H' : Hp} {v : V} {r : Ps} (h : PartAt H v r) (s : Same H H') : PartAt H' v r := by
  obtain ⟨t, us, e, h1, h2⟩ := h
  exact ⟨t, us, e, s _ _ h1, pd_mono h2 fun _ _ z => z.mono s⟩
structure OkP (rows : List Ps) : Prop where
  ne : rows ≠ []
  few : rows.length ≤ 20
  name : ∀ r ∈ rows, letB r.1 = true
  part : ∀ r ∈ rows, ∀ l ∈ r.2, Lets l
  many : ∀ r ∈ rows, r.2.length ≤ 5
  dis : (rows.map (·.1)).Nodup
  out : ∀ r ∈ rows, ∀ l ∈ r.2, ∀ x ∈ l, x ∉ rows.map (·.1)
def toP (r : Sd) : Ps := (r.1, [r.2.1, r.2.2])
theorem side_part {H : Hp} {v : V} {r : Sd} (h : SideAt H v r) : PartAt H v (toP r) := by
  obtain ⟨t, a, b, rfl, h1, h2, h3⟩ := h
  exact ⟨t, [.ref a, .ref b], rfl, h1, .cons ⟨a, rfl, h2⟩ (.cons ⟨b, rfl, h3⟩ .nil)⟩
theorem Rows.toP {rows : List Sd} (h : Rows rows) : OkP (rows.map toP) := by
  have e : (rows.map CP.toP).map (·.1) = rows.map (·.1) := by rw [List.map_map]; rfl
  refine ⟨fun z => h.ne (List.map_eq_nil_iff.mp z), by rw [List.length_map]; exact h.few, fun r hr => ?_, fun r hr l hl => ?_, fun r hr => ?_, by rw [e]; exact h.dis, fun r hr l hl x hx => ?_⟩
  · obtain ⟨u, hu, rfl⟩ := List.mem_map.mp hr; exact h.name u hu
  · obtain ⟨u, hu, rfl⟩ := List.mem_map.mp hr
    rcases List.mem_cons.mp hl with rfl | hl
    · exact h.size u hu
    · rw [List.mem_singleton.mp hl]; exact h.step u hu
  · obtain ⟨u, hu, rfl⟩ := List.mem_map.mp hr; exact (by decide : 2 ≤ 5)
  · obtain ⟨u, hu, rfl⟩ := List.mem_map.mp hr
    rw [e]
    refine h.out u hu x ?_
    rcases List.mem_cons.mp hl with rfl | hl
    · exact List.mem_append_left _ hx
    · rw [List.mem_singleton.mp hl] at hx; exact List.mem_append_right _ hx
abbrev Bd := Str × List Str
def toB (b : Bd) : Ps := (b.1, [b.2])
def PairAt (H : Hp) (v : V) (b : Bd) : Prop := ∃ t a, v = .ref t ∧ H t = some (.tup [.str b.1, .ref a]) ∧ H a = some (.lst (strL b.2))
theorem PairAt.mono {H H' : Hp} {v : V} {b : Bd} (h : PairAt H v b) (s : Same H H') : PairAt H' v b := by
  obtain ⟨t, a, e, h1, h2⟩ := h
  exact ⟨t, a, e, s _ _ h1, s _ _ h2⟩
theorem pair_part {H : Hp} {v : V} {b : Bd} (h : PairAt H v b) : PartAt H v (toB b) := by
  obtain ⟨t, a, rfl, h1, h2⟩ := h
  exact ⟨t, [.ref a], rfl, h1, .cons ⟨a, rfl, h2⟩ .nil⟩
def partsD (ls : List (List Str)) : List PyData := ls.map fun l => .list (l.map .str)
def partD (r : Ps) : PyData := .tuple (.str r.1 :: partsD r.2)
theorem txts_dp {K : PySem.W.Frag} {H : Hp} {us : List V} {ls : List (List Str)} (h : Paired (TxtAt H) us ls) : DpAll K H us (partsD ls) := by
  induction h with
  | nil => exact .nil
  | cons h _ ih =>
    obtain ⟨a, rfl, h1⟩ := h
    exact .cons (.lst (.of h1) (dpA_strs _)) ih
theorem txts_lay {ls : List (List Str)} (h : ∀ l ∈ ls, Lets l) : PyData.canLayAll0 (partsD ls) = true ∧ PyData.depthAll (partsD ls) ≤ 1 := by
  induction ls with
  | nil => exact ⟨by simp [partsD, PyData.canLayAll0], by simp [partsD, PyData.depthAll]⟩
  | cons l ls ih =>
    obtain ⟨i1, i2⟩ := ih fun x hx => h x (List.mem_cons_of_mem _ hx)
    obtain ⟨a1, a2⟩ := lay_strs (h l (List.mem_cons_self ..)).lay
    refine ⟨?_, ?_⟩
    · show PyData.canLayAll0 (PyData.list (l.map .str) :: partsD ls) = true
      simp [PyData.canLayAll0, PyData.canLay0, a1, i1]
    · show PyData.depthAll (PyData.list (l.map .str) :: partsD ls) ≤ 1
      simp only [PyData.depthAll, PyData.depth, a2]
      omega
theorem part_dp {K : PySem.W.Frag} {H : Hp} {us : List V} {r : Ps} (hn : letB r.1 = true) (hl : ∀ l ∈ r.2, Lets l) (h : Paired (TxtAt H) us r.2) : ∃ ds, DpAll K H (.str r.1 :: us) ds ∧ PyData.canLayAll0 ds = true ∧ PyData.depthAll ds ≤ 60 := by
  obtain ⟨a1, a2⟩ := txts_lay hl
  have b := let_lay hn
  simp only [PyData.canLay0] at b
  refine ⟨.str r.1 :: partsD r.2, .cons (.str _) (txts_dp h), by simp [PyData.canLayAll0, PyData.canLay0, a1, b], ?_⟩
  simp only [PyData.depthAll, PyData.depth]
  omega
theorem parts_dp {K : PySem.W.Frag} {H : Hp} {vs : List V} {rows : List Ps} (hn : ∀ r ∈ rows, letB r.1 = true) (hl : ∀ r ∈ rows, ∀ l ∈ r.2, Lets l) (h : Paired (PartAt H) vs rows) : ∃ ds, DpAll K H vs ds ∧ PyData.canLayAll0 ds = true ∧ PyData.depthAll ds ≤ 60 := by
  have lay : ∀ rows : List Ps, (∀ r ∈ rows, letB r.1 = true) → (∀ r ∈ rows, ∀ l ∈ r.2, Lets l) → PyData.canLayAll0 (rows.map partD) = true ∧ PyData.depthAll (rows.map partD) ≤ 2 := by
    intro rows hn hl
    induction rows with
    | nil => exact ⟨by simp [PyData.canLayAll0], by simp [PyData.depthAll]⟩
    | cons r rows ih =>
      obtain ⟨i1, i2⟩ := ih (fun x hx => hn x (List.mem_cons_of_mem _ hx)) fun x hx => hl x (List.mem_cons_of_mem _ hx)
      obtain ⟨a1, a2⟩ := txts_lay (hl r (List.mem_cons_self ..))
      have b := let_lay (hn r (List.mem_cons_self ..))
      simp only [PyData.canLay0] at b
      refine ⟨by simp [partD, PyData.canLayAll0, PyData.canLay0, a1, b, i1], ?_⟩
      rw [List.map_cons]
      simp only [PyData.depthAll]
      have : (partD r).depth ≤ 2 := by simp only [partD, PyData.depth, PyData.depthAll]; omega
      omega
  refine ⟨rows.map partD, ?_, (lay rows hn hl).1, Nat.le_trans (lay rows hn hl).2 (by decide)⟩
  clear lay hn hl
  induction h with
  | nil => exact .nil
  | cons h _ ih =>
    obtain ⟨t, us, rfl, h1, h2⟩ := h
    exact .cons (.tup (.of h1) (.cons (.str _) (txts_dp h2))) ih
theorem part_at {H H' : Hp} {vs : List V} {rows : List Ps} (pr : Paired (PartAt H) vs rows) (s : Same H H') {i : Nat} {x : V} (hx : vs[i]? = some x) :
    ∃ r t us, rows[i]? = some r ∧ r ∈ rows ∧ x = .ref t ∧ H' t = some (.tup (.str r.1 :: us)) ∧ Paired (TxtAt H') us r.2 := by
  obtain ⟨r, hr, t, us, e, h1, h2⟩ := pd_get pr hx
  exact ⟨r, t, us, hr, List.mem_of_getElem? hr, e, s _ _ h1, pd_mono h2 fun _ _ z => z.mono s⟩
theorem cut_one (x : V) (us : List V) : cutV (x :: us) (some 1) none = us := by
  unfold cutV
  rw [HT.sIx_none, show (some (1 : Int)) = some ((1 : Nat) : Int) from rfl, HT.sIx_nat, List.length_cons, Nat.min_eq_left (by omega), List.drop_succ_cons, List.drop_zero]
  exact List.take_of_length_le (by omega)
end CP

set_option Elab.async false
set_option linter.all false
set_option maxRecDepth 100000
set_option maxHeartbeats 4000000
set_option autoImplicit false
/-! full tables -/
namespace CP
open L2 PySem PyProof.Rows
def manyF (f : Str → Int) (rows : List Sd) : Int := rows.foldl (fun a r => a * prodF f r.2.1) 1
theorem manyF_take {f : Str → Int} {rows : List Sd} {i : Nat} {r : Sd} (h : rows[i]? = some r) : manyF f (rows.take (i + 1)) = manyF f (rows.take i) * prodF f r.2.1 := foldl_succ h
theorem many_low {kv : List (Str × Int)} {rows : List Sd} (hk : Small kv (rows.flatMap fun r => r.2.1)) : 1 ≤ manyF (atD kv) rows ∧ manyF (atD kv) rows ≤ 2 ^ (13 * (rows.flatMap fun r => r.2.1).length) ∧ manyF (atD kv) rows = ((Gr.prodN (zsN (atD kv) rows) : Nat) : Int) := by
  have e : ∀ (l : List Sd) (a : Int), l.foldl (fun a r => a * prodF (atD kv) r.2.1) a = a * prodF (atD kv) (l.flatMap fun r => r.2.1) := by
    intro l
    induction l with
    | nil => intro a; show a = a * 1; omega
    | cons r l ih => intro a; rw [List.foldl_cons, ih, List.flatMap_cons, prodF_append, Int.mul_assoc]
  have e1 : manyF (atD kv) rows = prodF (atD kv) (rows.flatMap fun r => r.2.1) := by unfold manyF; rw [e, Int.one_mul]
  have b := prodF_le13 (l := rows.flatMap fun r => r.2.1) fun k h => (hk k h).2
  refine ⟨by rw [e1]; exact b.1, by rw [e1]; exact b.2, ?_⟩
  have z : ∀ (l : List Sd), (∀ r ∈ l, 0 ≤ prodF (atD kv) r.2.1) → ∀ (a : Nat), l.foldl (fun a r => a * prodF (atD kv) r.2.1) (a : Int) = (((zsN (atD kv) l).foldl (· * ·) a : Nat) : Int) := by
    intro l
    induction l with
    | nil => intro _ a; rfl
    | cons r l ih =>
      intro h a
      obtain ⟨m, hm⟩ := Int.eq_ofNat_of_zero_le (h r (List.mem_cons_self ..))
      rw [List.foldl_cons]
      show _ = (((zsN (atD kv) l).foldl (· * ·) (a * (prodF (atD kv) r.2.1).toNat) : Nat) : Int)
      rw [hm, ← Int.natCast_mul, ih fun x hx => h x (List.mem_cons_of_mem _ hx)]
      simp
  exact z rows (fun r hr => by have := (prodF_le13 (f := atD kv) (l := r.2.1) fun k h => (hk k (List.mem_flatMap.mpr ⟨r, hr, h⟩)).2).1; omega) 1
theorem flat_sub {rows : List Sd} (i : Nat) : ((rows.take i).flatMap fun r => r.2.1).length ≤ (rows.flatMap fun r => r.2.1).length := by
  have : rows.flatMap (fun r => r.2.1) = (rows.take i).flatMap (fun r => r.2.1) ++ (rows.drop i).flatMap (fun r => r.2.1) := by rw [← List.flatMap_append, List.take_append_drop]
  rw [this, List.length_append]
  omega
theorem many_take {kv : List (Str × Int)} {rows : List Sd} (hk : Small kv (rows.flatMap fun r => r.2.1)) (l : (rows.flatMap fun r => r.2.1).length ≤ 30) (i : Nat) : 1 ≤ manyF (atD kv) (rows.take i) ∧ manyF (atD kv) (rows.take i) < 2 ^ 400 := by
  have h := many_low (rows := rows.take i) (hk.sub fun k hk => by
    obtain ⟨r, hr, h⟩ := List.mem_flatMap.mp hk
    exact List.mem_flatMap.mpr ⟨r, List.mem_of_mem_take hr, h⟩)
  have := flat_sub (rows := rows) i
  exact ⟨h.1, Int.lt_of_le_of_lt h.2.1 (two_lt (by omega))⟩
theorem zs_cell {kv : List (Str × Int)} {rows : List Sd} (hk : Small kv (rows.flatMap fun r => r.2.1)) : ∀ c ∈ Gr.cellsM (zsN (atD kv) rows), CellL (atD kv) rows c := fun c hc => by
  obtain ⟨h1, h2⟩ := Gr.cells_within _ (List.reverse_reverse _) c hc
  refine ⟨by rw [h1]; unfold zsN; rw [List.length_map], fun i r n hr hn => ?_⟩
  have := h2 i n (prodF (atD kv) r.2.1).toNat hn (by unfold zsN; rw [List.getElem?_map, hr]; rfl)
  have p := (prodF_le13 (f := atD kv) (l := r.2.1) fun k h => (hk k (List.mem_flatMap.mpr ⟨r, List.mem_of_getElem? hr, h⟩)).2).1
  omega
/-- there is an order without a gap -/
def FullEx (due : List Str) (ls : List Sd) : Prop := ∃ fs, fs.Perm ls ∧ FullFrom due fs
theorem count_len {l m : List Str} (h : ∀ w, l.count w ≤ m.count w) : l.length ≤ m.length := by
  obtain ⟨r, hr⟩ := restOf_some (o := l) (l := m) h
  have := (restOf_perm hr).length_eq
  rw [List.length_append] at this
  omega
theorem full_step {due : List Str} {ls : List Sd} {r : Sd} (hr : r ∈ ls) (ne : ∀ s ∈ ls, s.2.1 ≠ []) (e : r.2.2.Perm due) : FullEx due ls ↔ FullEx (r.2.1 ++ r.2.2) (ls.erase r) := by
  constructor
  · rintro ⟨fs, p, f⟩
    cases fs with
    | nil => rw [List.nil_perm.mp p] at hr; cases hr
    | cons u fs =>
      obtain ⟨f1, f2⟩ := f
      have eu : r = u := by
        rcases List.mem_cons.mp (p.mem_iff.mpr hr) with z | z
        · exact z
        · have l1 := count_len ((full_chain f2).2 r z)
          have l2 := e.length_eq
          have l3 := f1.length_eq
          rw [List.length_append] at l1
          exact absurd (List.eq_nil_of_length_eq_zero (by omega)) (ne u (p.mem_iff.mp (List.mem_cons_self ..)))
      subst eu
      exact ⟨fs, (List.cons_perm_iff_perm_erase.mp p).2, f2⟩
  · rintro ⟨fs, p, f⟩
    exact ⟨r :: fs, List.cons_perm_iff_perm_erase.mpr ⟨hr, p⟩, e, f⟩
theorem full_none {due : List Str} {ls : List Sd} (ne : ls ≠ []) (h : ∀ r ∈ ls, ¬ r.2.2.Perm due) : ¬ FullEx due ls := by
  rintro ⟨fs, p, f⟩
  cases fs with
  | nil => exact ne (List.nil_perm.mp p)
  | cons u fs => exact h u (p.mem_iff.mp (List.mem_cons_self ..)) f.1
theorem srt_perm_iff {l m : List Str} : srt l = srt m ↔ l.Perm m := ⟨fun h => ((srt_perm l).symm.trans (by rw [h])).trans (srt_perm m), srt_congr⟩
/-! list.remove of data -/
def rRemD (K : PySem.W.Frag) : V → List V → Hp → VK → Prop := fun x xs H Q => ∃ (l : Addr) (ys : List V) (y : V) (ds : List PyData) (d : PyData) (j : Nat), x = .ref l ∧ xs = [y] ∧ H l = some (.lst ys) ∧ DpAll K H ys ds ∧ Dp K H y d ∧ PyData.plainAll ds = true ∧ d.plain = true ∧ d.depth ≤ 60 ∧ SeqAt.dataPlace ds d = some j ∧ Q .non (upd H l (.lst (ys.eraseIdx j)))
theorem mt_remD {X : Cx} (hu : X.A.units + 64 < cLine) : MtM X "list.remove" (rRemD X.K) := by
  intro pins s σ H x xs v us Q I rx rxs ⟨l, ys, y, ds, d, j, ex, exs, hH, hd, hy, p1, p2, dd, hj, q⟩
  subst ex exs
  cases rx
  obtain ⟨u, eu, ru⟩ := rxs.one
  subst eu
  obtain ⟨z, its, n, r, hl, e⟩ := I.lstM hH
  obtain ⟨as, ra⟩ := Dp.readsAll I ds ys its hd r
  obtain ⟨bs, rb⟩ := Dp.reads I d y u hy ru
  refine SeqAt.remove_list_data (vs := its.toArray) (j := j) ⟨_, e, rfl, n, rfl⟩ (by simpa using ra) rb p1 p2 (by omega) hj (by rw [List.size_toArray]; omega) ?_
  refine ⟨.non, _, I.lset (its' := its.eraseIdx j) (t' := s.toks) (ys := ys.eraseIdx j) hH e ?_ (r.eraseIdx j) ?_, rfl, q⟩
  · show its.toArray.eraseIdxIfInBounds j = (its.eraseIdx j).toArray
    rw [List.eraseIdxIfInBounds_toArray]
  · have := List.length_eraseIdx_le (l := ys) (i := j)
    omega
theorem side_plain (r : Sd) : (sideD r).plain = true := by
  have h : ∀ l : List Str, PyData.plainAll (l.map .str) = true := by
    intro l
    induction l with
    | nil => rfl
    | cons x l ih => simp [PyData.plainAll, PyData.plain, ih]
  simp [sideD, PyData.plain, PyData.plainAll, h]
theorem sides_plain (rs : List Sd) : PyData.plainAll (rs.map sideD) = true := by
  induction rs with
  | nil => rfl
  | cons r rs ih => simp [PyData.plainAll, side_plain, ih]
theorem side_place {r : Sd} : ∀ {rs : List Sd}, r ∈ rs → ∃ j, SeqAt.dataPlace (rs.map sideD) (sideD r) = some j ∧ rs.eraseIdx j = rs.erase r
  | u :: rs, h => by
    unfold SeqAt.dataPlace
    rw [List.map_cons, List.findIdx?_cons, eqv_side]
    by_cases e : u = r
    · subst e
      rw [decide_eq_true rfl]
      exact ⟨0, rfl, by simp⟩
    · rw [decide_eq_false e]
      obtain ⟨j, h1, h2⟩ := side_place ((List.mem_cons.mp h).resolve_left (Ne.symm e))
      unfold SeqAt.dataPlace at h1
      rw [h1]
      refine ⟨j + 1, rfl, ?_⟩
      rw [List.eraseIdx_cons_succ, h2, List.erase_cons_tail (by simpa using e)]
theorem pd_eraseIdx {α β : Type} {R : α → β → Prop} {xs : List α} {ys : List β} (h : Paired R xs ys) : ∀ j, Paired R (xs.eraseIdx j) (ys.eraseIdx j) := by
  induction h with
  | nil => intro j; exact .nil
  | cons h t ih =>
    intro j
    cases j with
    | zero => exact t
    | succ j => exact .cons h (ih j)
theorem r_remSd {K : PySem.W.Frag} {H : Hp} {Q : VK} {l : Addr} {vs : List V} {v : V} {rs : List Sd} {r : Sd} (hl : H l = some (.lst vs)) (pr : Paired (SideAt H) vs rs) (hv : SideAt H v r) (hr : r ∈ rs) (dp : (sideD r).depth ≤ 60)
    (q : ∀ H' ws, SB l H H' → H' l = some (.lst ws) → Paired (SideAt H) ws (rs.erase r) → Q .non H') : rRemD K (.ref l) [v] H Q := by
  obtain ⟨j, h1, h2⟩ := side_place hr
  refine ⟨l, vs, v, _, _, j, rfl, rfl, hl, rows_dp pr, side_dp hv, sides_plain rs, side_plain r, dp, h1, q _ _ sb_upd upd_same ?_⟩
  rw [← h2]
  exact pd_eraseIdx pr j
/-- list(range(n)) -/
theorem r_listRg {ta : TE} {σ : L2.St} {H : Hp} {Q : VK} (q : ta σ H fun x H1 => ∃ n : Int, x = .int n ∧ RgOk 0 n ∧ ∀ p, H1 p = none → Q (.ref p) (upd H1 p (.lst (rgV 0 n)))) : tLstRg (tRg1 ta) σ H Q := q
theorem rgV_nat (n : Nat) : rgV 0 (n : Int) = ((List.range n).map fun i => ((i : Nat) : Int)).map V.int := by
  unfold rgV
  rw [List.map_map, Int.sub_zero, Int.toNat_natCast]
  refine List.map_congr_left fun i _ => ?_
  show V.int (0 + (i : Int)) = V.int (i : Int)
  rw [Int.zero_add]
def oSortI (K : PySem.W.Frag) : List V → Hp → VK → Prop := rSortedI K
theorem r_sortI {K : PySem.W.Frag} {H : Hp} {Q : VK} {a : Addr} {ns : List Int} (h : SqL K H a (ns.map V.int)) (q : ∀ (ms : List Int) p H', ms.Perm ns → ms.Pairwise (· ≤ ·) → H p = none → Same H H' → H' p = some (.lst (ms.map V.int)) → Q (.ref p) H') : rSortedI K [.ref a] H Q :=
  ⟨a, ns, rfl, h, fun ms p h1 h2 h3 => q ms p _ h1 h2 h3 (same_new h3) upd_same⟩
/-- texts compared, one of them known to fit -/
theorem strs_eqX' {K : PySem.W.Frag} {H : Hp} {Q : VK} {a b : Addr} {xs ys : List Str} (h : SqL K H a (strL xs)) (h2 : SqL K H b (strL ys)) (hx : ∀ x ∈ xs, (PyData.str x).canLay0 = true) (hy : ∀ y ∈ ys, (PyData.str y).canLay0 = true) (q : Q (.bl (decide (xs = ys))) H) : rEqX K (.ref a) (.ref b) H Q := strs_eqX h h2 hx hy q
def oDictD : List V → Hp → VK → Prop := fun xs H Q => ∃ (a : Addr) (kvs : List (Key × V)), xs = [.ref a] ∧ Rd H a (.dK kvs) ∧ ∀ p, H p = none → Q (.ref p) (upd H p (.dK kvs))
theorem r_dictD {H : Hp} {Q : VK} {a : Addr} {kvs : List (Key × V)} (h : H a = some (.dK kvs)) (q : ∀ p H', H p = none → Same H H' → H' p = some (.dK kvs) → Q (.ref p) H') : oDictD [.ref a] H Q := ⟨a, kvs, rfl, .inl h, fun p p0 => q p _ p0 (same_new p0) upd_same⟩
/-! dense -/
theorem prodZ_many {f : Str → Int} : ∀ (rows : List Sd), manyF f rows = prodZ f rows := by
  have : ∀ (l : List Sd) (a : Int), l.foldl (fun a r => a * prodF f r.2.1) a = a * prodZ f l := by
    intro l
    induction l with
    | nil => intro a; show a = a * 1; omega
    | cons r l ih => intro a; rw [List.foldl_cons, ih]; show _ = a * (prodF f r.2.1 * prodZ f l); rw [Int.mul_assoc]
  intro rows
  unfold manyF
  rw [this, Int.one_mul]
/-- the places of all cells of a full table, in order -/
theorem full_dense {kv : List (Str × Int)} {rows : List Sd} (hR : Rows rows) (hk : Small kv (ltrs rows)) (u : FullEx [] (rows.filter full1)) {ms : List Int} (p : ms.Perm ((Gr.cellsM (zsN (atD kv) rows)).map fun c => spotL (atD kv) rows c)) (s : ms.Pairwise (· ≤ ·)) :
    ms = (List.range (Gr.cellsM (zsN (atD kv) rows)).length).map fun i => ((i : Nat) : Int) := by
  obtain ⟨fs, pf, ff⟩ := u
  have hk1 : Small kv (rows.flatMap fun r => r.2.1) := hk.sub fun k hk => by
    obtain ⟨r, hr, h⟩ := List.mem_flatMap.mp hk
    exact ltrs_size hr k h
  have within := zs_cell hk1
  have nd := Gr.cells_nodup (zs := zsN (atD kv) rows) _ (List.reverse_reverse _)
  have cl := Gr.cells_len (zs := zsN (atD kv) rows) _ (List.reverse_reverse _)
  have m3 := (many_low hk1).2.2
  rw [prodZ_many] at m3
  generalize Gr.cellsM (zsN (atD kv) rows) = cs at *
  refine Gr.perm_rise p s ?_ (by rw [List.length_map]) fun x hx => ?_
  · refine List.Pairwise.map _ (fun _ _ h => h) (List.Pairwise.imp_of_mem (S := fun a b => spotL (atD kv) rows a ≠ spotL (atD kv) rows b) (fun {a b} ha hb ne e => ne ?_) nd)
    have ka := cell_of_l hR.nd (within a ha)
    have kb := cell_of_l hR.nd (within b hb)
    refine cell_inj hR (full_chain ff).1 pf hk.f1 ka kb ?_
    rw [← spot_eq hR.nd ka.1, ← spot_eq hR.nd kb.1]
    exact e
  · obtain ⟨c, hc, rfl⟩ := List.mem_map.mp hx
    have kc := cell_of_l hR.nd (within c hc)
    have := full_lt ff pf hk.f1 kc
    rw [← spot_eq hR.nd kc.1] at this
    omega
end CP

set_option Elab.async false
set_option linter.all false
set_option maxRecDepth 100000
set_option maxHeartbeats 4000000
set_option autoImplicit false
/-! promises of defs that are kept where no repr is under way (so that repr of lists and tuples may be asked), and repr -/
namespace CP
open L2 PySem PyProof.Rows
/-- no repr is under way -/
def Gd (A : Around) : Prop := A.guards = some []
structure FnG (P : Program) (w : World) (K : PySem.W.Frag) (mg : Str → Option Value) (base : Heap) (CX : CXT) (k : Nat) (f : Addr) (fd : FuncData) (ps : List Str) (sp : Sp) : Prop where
  wide : ∀ zs h Q E, sp zs h Q E → zs.length = ps.length
  goes : ∀ (B : Around), Gd B → Room k B → ∀ (out : List Env) (t : Shared) (h : Hp) (args : Args) (us : List Value) (zs : List V) (Q : VK) (E : XK), Env0 P w K mg base B out t h → BindsTo t fd args (ps.zip us) → Vals zs us → sp zs h Q E →
    codeAny (model P w) B (.call (.ref f) args) (CR CX out P w h t Q E) t
section
variable {CX : CXT} {P : Program} {w : World} {K : PySem.W.Frag} {mg : Str → Option Value} {base : Heap} {k : Nat} {f : Addr} {fd : FuncData} {ps : List Str} {sp sp' : Sp}
theorem FnG.of (F : FnOk P w K mg base CX k f fd ps sp) : FnG P w K mg base CX k f fd ps sp :=
  ⟨F.len, fun B _ hr out t h args us zs Q E => F.run B out t h args us zs Q E hr⟩
theorem FnG.imp (F : FnG P w K mg base CX k f fd ps sp) (i : ∀ vs H Q E, sp' vs H Q E → sp vs H Q E) : FnG P w K mg base CX k f fd ps sp' :=
  ⟨fun zs h Q E q => F.wide zs h Q E (i _ _ _ _ q), fun B g hr out t h args us zs Q E e b v q => F.goes B g hr out t h args us zs Q E e b v (i _ _ _ _ q)⟩
/-- the rule for a def: its body is read where no repr is under way -/
theorem fnG_of {name qual : Str} {params : Arguments} {body : List Stmt} {scope : Scope} {dV kV doc pm cdv ct oc : Value} {an od : Option Addr} {osl : Array (Option Value)} {N : List Str}
    (lk : K.lookup f = some ⟨oc, od, .func (PySem.W.fnOf name qual params body scope dV kV doc pm an cdv ct), osl⟩) (hcd : PySem.W.codeIn K cdv qual = true) (S : FnScope N ps scope) (wide : ∀ zs h Q E, sp zs h Q E → zs.length = ps.length)
    (hb : ∀ (B : Around) (out : List Env) (t : Shared) (h : Hp) (zs : List V) (Q : VK) (E : XK), Gd (B.deeper (envOfC qual scope t.heap.objs.size f cdv)) → Room k (B.deeper (envOfC qual scope t.heap.objs.size f cdv)) → sp zs h Q E →
      ∃ r, PSs (cxOf CX P w K mg base N qual scope f cdv B out t h E) body r ∧ r { nx := fun _ h' => Q .non h', rt := Q } (start N zs) h) :
    FnG P w K mg base CX (k + 1) f (PySem.W.fnOf name qual params body scope dV kV doc pm an cdv ct) ps sp := by
  refine ⟨wide, fun B gd room out t h args us zs Q E env bind vals pr => ?_⟩
  have kin : K.In t.heap := env.mod.kin.keeps fun b o z => (env.bs b o z).1
  have nolim : t.heap.NoLimit := env.mod.nolimit.keeps fun b o z => (env.bs b o z).1
  have kinds : ∀ y ∈ ps.zip us, scope.names.lookup y.1 = some .local ∨ (scope.names.lookup y.1 = some .cell ∧ ((cellsFrom (t.heap.objs.size + 1) scope.names []).lookup y.1).isSome = true) := fun y hy =>
    (S.par y.1 (List.of_mem_zip (b := y.2) hy).1).imp id fun z => ⟨z, PySem.W.cellsFrom_some _ _ _ (.inl z)⟩
  refine codeAny_call_function room.depth (kin _ _ lk) rfl S.co S.gen rfl (PySem.W.codeRec_of kin hcd) (bind _ _ _ _ (wpAny_newFunctionEnv_cells S.kind kinds fun e he t1 x => ?_))
  cases he
  refine ⟨nolim.keeps x.toInCall.keep, codeAny_func ?_⟩
  obtain ⟨r, hr, hq⟩ := hb B out t h zs Q E gd (room.deeper _) pr
  refine wpAny_mono (hr.run [] t1 (start N zs) h _ (inv_start S room.hd env (wide _ _ _ _ pr) vals x) hq) (fun fl t' z => ?_) fun _ _ z => z
  match fl, z with
  | .ret u, ⟨v, _, h', J, rv, q⟩ => exact ⟨v, h', J.os, J.bare, J.base, J.hok, rv, q⟩
  | .next, ⟨_, h', J, q⟩ => exact ⟨V.non, h', J.os, J.bare, J.base, J.hok, rfl, q⟩
  | .brk, ⟨_, _, _, q⟩ => exact q.elim
  | .cont, ⟨_, _, _, q⟩ => exact q.elim
theorem Fun.okG {x qual : Str} {st : Stmt} {N : List Str} (F : Fun K x qual st f fd) (S : FnScope N ps (defScope st)) (wide : ∀ zs h Q E, sp zs h Q E → zs.length = ps.length)
    (hb : ∀ (cdv : Value) (B : Around) (out : List Env) (t : Shared) (h : Hp) (zs : List V) (Q : VK) (E : XK), Gd (B.deeper (envOfC qual (defScope st) t.heap.objs.size f cdv)) → Room k (B.deeper (envOfC qual (defScope st) t.heap.objs.size f cdv)) → sp zs h Q E →
      ∃ r, PSs (cxOf CX P w K mg base N qual (defScope st) f cdv B out t h E) (defBody st) r ∧ r { nx := fun _ h' => Q .non h', rt := Q } (start N zs) h) : FnG P w K mg base CX (k + 1) f fd ps sp := by
  obtain ⟨oc, od, kV, doc, pm, an, cdv, ct, osl, rfl, lk, hcd⟩ := F.ex
  exact fnG_of lk hcd S wide fun B out t h zs Q E => hb cdv B out t h zs Q E
end
/-! calls of such -/
section
variable {X : Cx} {CX : CXT} {k m : Nat} {f : Addr} {fd : FuncData} {ps ks : List Str} {sp : Sp} {dvs : List V} {ds : List Value} {E : XK} {x : Str} {p pos : Pos} {e : Expr} {es : List Expr} {t : TA}
theorem runG {pins : List (Addr × Obj)} {σ : L2.St} {H : Hp} {s : Shared} {Q : VK} {ws : List Value} {args : Args} {vs : List V} (F : FnG X.prog X.w X.K X.mg X.base CX k f fd ps sp) (gd : Gd X.A) (hr : Room k X.A) (hb : BindsTo s fd args (ps.zip ws)) (hx : Passes CX X E)
    (I : Inv X pins σ H s) (r : Vals vs ws) (h : sp vs H Q E) : codeAny (model X.prog X.w) X.A (.call (.ref f) args) (fun r s' => match r with | .error e => X.xe e s' | .ok (.ret u) => EP X pins σ Q u s' | .ok _ => False) s := by
  refine codeAny_mono (F.goes X.A gd hr X.stack s H args ws vs Q E I.env0 hb r h) fun r s' z => ?_
  match r, z with
  | .error e, z => exact hx pins σ H s e s' I z
  | .ok (.ret u), z => exact I.after z
theorem pe_callG (F : FnG X.prog X.w X.K X.mg X.base CX k f fd ps sp) (gd : Gd X.A) (hr : Room k X.A) (hg : Gl X x) (hm : X.mg x = some (.ref f)) (hk : PySem.W.keepIn X.K (.ref f) = true) (hb : Binds X.K fd ps ds) (hd : Vals dvs ds) (hx : Passes CX X E) (ha : PA X (e :: es) t)
    (hdb : (x == ("__debug__" : Str)) = false := by decide) (he : starEach (e :: es) X.env = (false, eval e X.env) :: starEach es X.env := by rfl) (hpl : (backTo pos (starEach es X.env)).any (·.1) = false := by rfl) :
    PE X (.Call (.Name x p) (e :: es) [] pos) (tCall sp dvs E t) := by
  constructor
  intro pins s σ H Q I h
  refine wpAny_Call_Name_kw (ld_glob I hg hm ?_ hdb)
  refine PySem.W.callWith_K (h₀ := X.base) I.ok.mod.kin hk (thn (ha.run pos pins s σ H _ I h) fun us s1 z => ?_) he hpl
  obtain ⟨zs, H1, I1, r, q⟩ := z
  have r2 : Vals (zs ++ dvs) (us ++ ds) := r.append hd
  refine ⟨I1.kIn, wpAny_call (codeAny_mono (runG F gd hr (hb s1 us I1.kIn (by rw [← r2.length]; exact F.wide _ _ _ _ q)) hx I1 r2 q) fun r s' z => ?_)⟩
  match r, z with
  | .error e, z => exact z
  | .ok (.ret u), z => exact z
/-- repr of data -/
def rRepr (K : PySem.W.Frag) : List V → Hp → VK → Prop := fun xs H Q => ∃ a d, xs = [.ref a] ∧ Dp K H (.ref a) d ∧ d.showable = true ∧ d.hasDict = false ∧ d.depth ≤ 60 ∧ d.shown.length ≤ sizeLine ∧ Q (.str d.shown) H
theorem call_reprD (gd : Gd X.A) (hu : X.A.units + 64 < cLine) : CallR X (.builtin "repr") (rRepr X.K) := by
  intro pins s σ H xs us Q I r h
  obtain ⟨a, d, rfl, hd, hs, hn, h6, hz, q⟩ := h
  obtain ⟨u, rfl, ru⟩ := vals1 r
  obtain ⟨as, rd⟩ := Dp.reads I d _ u hd ru
  cases (show u = Value.ref a from ru)
  exact repr_of_reads' rd hs (fun z => by rw [hn] at z; cases z) gd (by omega) (fun _ _ z => z) (fun h' v tk keep => ⟨.str d.shown, H, inv_grow I keep (Same.refl _) (fun _ _ z => .inl z), ⟨_, rfl⟩, q⟩) hz
end
/-! the law's own call -/
theorem script_at {K : PySem.W.Frag} {P : Program} {w : World} {mg mb : Str → Option Value} {CX : CXT} {k : Nat} {fa a : Addr} {fd : FuncData} {x : Str} {sp : Sp} {t : Shared} {vals : List Value} {H : Hp}
    (KX : K.In t.heap) (G : t.heap.Ns mainGlobals mg) (B : t.heap.Ns builtinsNs mb) (boot : ∀ x : Str, x ≠ "__name__" → mb x = bootBuiltins x) (lim : t.heap.NoLimit) (gens : t.gens = #[])
    (own : t.heap.get? a = some { cls := .type "list", data := .seq vals.toArray }) (room : Room k callerA) (F : ∀ base : Heap, K.In base → base.Ns mainGlobals mg → FnG P w K mg base CX k fa fd [x] sp)
    (bind : ∀ (s : Shared) (u : Value), BindsTo s fd ⟨[u], []⟩ [(x, u)]) (noX : ∀ H e t', CX [] H t (fun _ _ _ => False) e t' → False) (only : Only H) (ok : HOk P w H t.heap) (lone : ∀ b, H b ≠ none → b = a) (notK : H a ≠ none → K.lookup a = none)
    (pr : sp [.ref a] H (fun v _ => v = .bl true) fun _ _ _ => False) :
    codeAny (model P w) callerA (.call (.ref fa) ⟨[.ref a], []⟩) (fun r t' => r = .ok (.ret (.bool true)) ∧ OldK t.heap t'.heap ∧ t'.os = t.os ∧ AllBare t'.gens) t := by
  have low : ∀ {b : Addr} {o : Obj}, t.heap.get? b = some o → H b = none → (hidT t.heap H).get? b = some o := fun z n => hidT_get z n
  have isA : ∀ {b : Addr}, (∀ u, H b = some u → b = a → False) → H b = none := fun {b} z => by
    cases q : H b with
    | none => rfl
    | some u => exact (z u q (lone b (by rw [q]; simp))).elim
  have noD : ∀ {b : Addr} {m : Str → Option Value}, t.heap.Ns b m → (hidT t.heap H).Ns b m := fun {b m} ⟨o, es, ep, z, d, r⟩ => ⟨o, es, ep, low z (isA fun u _ e => by
    subst e
    rw [own] at z
    cases z
    cases (show Data.seq vals.toArray _ = Data.dict es ep from d)), d, r⟩
  have kin : K.In (hidT t.heap H) := fun b o z => low (KX b o z) (isA fun u qu e => by
    subst e
    rw [notK (by rw [qu]; simp)] at z
    cases z)
  obtain ⟨mc, l1, l2⟩ := lim
  have md : Mod K mg (hidT t.heap H) := ⟨kin, noD G, ⟨mb, noD B, boot⟩, mc, noD l1, l2⟩
  have env : Env0 P w K mg (hidT t.heap H) callerA [] t H := ⟨rfl, md, fun b o z => of_hidT z, Nat.le_of_eq (hidT_size _ _), trivial, fun b z => absurd (show b ∈ ([] : List Addr) from z) (by simp), ok, .of_eq gens⟩
  refine codeAny_mono ((F _ kin (noD G)).goes callerA rfl room [] t H ⟨[.ref a], []⟩ [.ref a] [.ref a] _ _ env (bind t (.ref a)) (.cons rfl .nil) pr) fun r t' z => ?_
  match r, z with
  | .error e, z => exact (noX H e t' z).elim
  | .ok (.ret u), ⟨v, H', os, bare, un, ok', ru, q⟩ =>
    cases (show v = .bl true from q)
    cases (show u = Value.bool true from ru)
    refine ⟨rfl, OldK.of_keep fun b o z => ?_, os, bare⟩
    rcases only b with n | ⟨oo, xs, n⟩
    · exact un.keep b o z n (by intro y; exact absurd (show b ∈ ([] : List Addr) from y) (by simp)) (by simp)
    · have g1 := (ok b _ n).1
      rw [z] at g1
      cases g1
      exact (ok' b _ (un.frzs b _ _ n)).1
theorem walk_G {l : PySem.W.OpenLaw} {n k : Nat} {q : Program} {loose : List Str} {XP : (Str → Option Value) → Heap → Prop} {YP : World → Heap → Prop} {d : DefRec} {K : Params → PySem.W.Frag} {CX : World → CXT} {sp : World → Sp} {x : Str}
    (hn : l.most = some n) (hz : n ≤ sizeLine) (hdf : d.params.defaults = []) (room : Room k callerA) (hY : ∀ (w : World) (h : Heap), YP w h → (K w.params).In h)
    (F : ∀ (w : World) (mg : Str → Option Value) (fa : Addr) (h : Heap), (K w.params).In h → h.Ns mainGlobals mg → mg d.name = some (.ref fa) →
      ∃ fd : FuncData, (∀ (s : Shared) (u : Value), BindsTo s fd ⟨[u], []⟩ [(x, u)]) ∧ ∀ base : Heap, (K w.params).In base → base.Ns mainGlobals mg → FnG l.prog w (K w.params) mg base (CX w) k fa fd [x] (sp w))
    (pr : ∀ (w : World) (H : Hp) (a : Addr) (ns : List Int), ns.length ≤ n → Only H → SqL (K w.params) H a (ns.map V.int) → sp w [.ref a] H (fun v _ => v = .bl true) fun _ _ _ => False)
    (noX : ∀ (w : World) (H : Hp) (s : Shared) (e : Value) (s' : Shared), CX w [] H s (fun _ _ _ => False) e s' → False) :
    PySem.W.WalkO q loose XP YP l.row.toRowW d [] (fun f vs => PySem.call f vs) := by
  refine Att.attach_call hn hdf fun w t0 t mg mb fa o pm cd doc a vals ns G Y ho hd hcd hmg own hints few gens => ?_
  have KX := hY w _ Y
  obtain ⟨fd, bind, goes⟩ := F w mg fa _ KX G.T.g hmg
  have rv := vals_ints hints
  have len : ns.length = vals.length := hints.length.symm
  have sz : ns.length ≤ sizeLine := Nat.le_trans few hz
  have core := fun (H : Hp) (only : Only H) (sq : SqL (K w.params) H a (ns.map V.int)) (ok : HOk l.prog w H t.heap) (lone : ∀ b, H b ≠ none → b = a) (notK : H a ≠ none → (K w.params).lookup a = none) =>
    script_at KX G.T.g G.T.b G.T.builtins G.T.nolimit gens own room goes bind (fun H e s' => noX w H t e s') only ok lone notK (pr w H a ns few only sq)
  cases hk : (K w.params).lookup a with
  | some ob =>
    have z := KX a ob hk
    rw [own] at z
    cases z
    exact core (fun _ => none) (fun _ => .inl rfl) (.inr ⟨_, vals.toArray, _, hk, rfl, rfl, rfl, by rw [List.size_toArray, ← len]; exact sz, by simpa using rv⟩) (fun b u z => nomatch (show (none : Option HO) = some u from z)) (fun b z => (z rfl).elim) fun z => (z rfl).elim
  | none =>
    have at_a : ∀ {b : Addr} {u : HO}, (if b = a then some (HO.frz { cls := .type "list", data := .seq vals.toArray } (.lst (ns.map V.int))) else none) = some u → b = a ∧ u = .frz { cls := .type "list", data := .seq vals.toArray } (.lst (ns.map V.int)) := fun {b u} z => by
      split at z
      · rename_i e
        cases z
        exact ⟨e, rfl⟩
      · cases z
    refine core (fun b => if b = a then some (.frz { cls := .type "list", data := .seq vals.toArray } (.lst (ns.map V.int))) else none) (fun b => ?_) (.inl (.inr ⟨{ cls := .type "list", data := .seq vals.toArray }, if_pos rfl⟩)) (fun b u z => ?_) (fun b z => ?_) fun _ => hk
    · by_cases e : b = a
      · exact .inr ⟨_, _, if_pos e⟩
      · exact .inl (if_neg e)
    · obtain ⟨e, hu⟩ := at_a z
      subst hu
      subst e
      exact ⟨own, by rw [List.length_map]; exact sz, vals, _, rv, own⟩
    · by_cases e : b = a
      · exact e
      · exact (z (if_neg e)).elim
end CP

set_option Elab.async false
set_option linter.all false
set_option maxRecDepth 100000
set_option maxHeartbeats 4000000
set_option autoImplicit false
/-! arranged sides -/
namespace CP
open L2 PySem PyProof.Rows
/-- sides with their steps, one behind the other -/
def rowsGo : List Str → List Bd → List Sd
  | _, [] => []
  | due, b :: bs => (b.1, b.2, if b.2 ≠ [] then due else []) :: rowsGo (due ++ b.2) bs
def arrOrd (z : Str) (bare : List Bd) : List Bd := bare.filter (fun b => !decide (z ∈ b.2)) ++ bare.filter fun b => decide (z ∈ b.2)
def stepOf (rows : List Sd) (n : Str) : List Str := ((rows.find? fun r => decide (r.1 = n)).map (·.2.2)).getD []
def arrRows (z : Str) (bare : List Bd) : List Sd := bare.map fun b => (b.1, b.2, stepOf (rowsGo [] (arrOrd z bare)) b.1)
theorem rowsGo_names : ∀ (bs : List Bd) (due : List Str), (rowsGo due bs).map (·.1) = bs.map (·.1)
  | [], _ => rfl
  | b :: bs, due => by rw [rowsGo, List.map_cons, List.map_cons, rowsGo_names bs]
theorem rowsGo_map : ∀ {bs : List Bd} {due : List Str}, (bs.map (·.1)).Nodup → rowsGo due bs = bs.map fun b => (b.1, b.2, stepOf (rowsGo due bs) b.1)
  | [], _, _ => rfl
  | b :: bs, due, nd => by
    obtain ⟨n1, n2⟩ := List.pairwise_cons.mp nd
    rw [List.map_cons]
    have e1 : stepOf (rowsGo due (b :: bs)) b.1 = if b.2 ≠ [] then due else [] := by
      unfold stepOf
      rw [rowsGo, List.find?_cons_of_pos (by simp)]
      rfl
    rw [e1]
    have e2 : ∀ x ∈ bs, stepOf (rowsGo due (b :: bs)) x.1 = stepOf (rowsGo (due ++ b.2) bs) x.1 := fun x hx => by
      unfold stepOf
      rw [rowsGo, List.find?_cons_of_neg (by simp; exact n1 x.1 (List.mem_map.mpr ⟨x, hx, rfl⟩))]
    have e3 : bs.map (fun x => ((x.1, x.2, stepOf (rowsGo due (b :: bs)) x.1) : Sd)) = rowsGo (due ++ b.2) bs := by
      rw [List.map_congr_left (g := fun x => ((x.1, x.2, stepOf (rowsGo (due ++ b.2) bs) x.1) : Sd)) fun x hx => by rw [e2 x hx]]
      exact (rowsGo_map n2).symm
    rw [e3]
    rfl
theorem arrOrd_perm (z : Str) (bare : List Bd) : (arrOrd z bare).Perm bare := by
  unfold arrOrd
  have h := List.filter_append_perm (fun b : Bd => decide (z ∈ b.2)) bare
  exact List.perm_append_comm.trans h
theorem arrRows_perm {z : Str} {bare : List Bd} (nd : (bare.map (·.1)).Nodup) : (rowsGo [] (arrOrd z bare)).Perm (arrRows z bare) := by
  have p := arrOrd_perm z bare
  have nd2 : ((arrOrd z bare).map (·.1)).Nodup := ((p.map _).nodup_iff).mpr nd
  have e := rowsGo_map (due := []) nd2
  have q := p.map fun b => ((b.1, b.2, stepOf (rowsGo [] (arrOrd z bare)) b.1) : Sd)
  rw [← e] at q
  exact q
theorem rowsGo_full : ∀ {bs : List Bd} {due due' : List Str}, due.Perm due' → FullFrom due' ((rowsGo due bs).filter full1)
  | [], _, _, _ => trivial
  | b :: bs, due, due', p => by
    rw [rowsGo]
    by_cases e : b.2 = []
    · rw [List.filter_cons_of_neg (by simp [full1, e])]
      exact rowsGo_full (by rw [e, List.append_nil]; exact p)
    · rw [List.filter_cons_of_pos (full_t e)]
      have h1 : ((b.1, b.2, if b.2 ≠ [] then due else []) : Sd).2.2 = due := if_pos e
      refine ⟨by rw [h1]; exact p, rowsGo_full (bs := bs) ?_⟩
      rw [h1]
      exact List.perm_append_comm
theorem arr_full {z : Str} {bare : List Bd} (nd : (bare.map (·.1)).Nodup) : FullEx [] ((arrRows z bare).filter full1) :=
  ⟨_, (arrRows_perm nd).filter _, rowsGo_full (.refl _)⟩
theorem full_srow : ∀ {fs : List Sd} {due due' : List Str}, FullFrom due fs → due.Perm due' → FullFrom due' (fs.map srow)
  | [], _, _, _, _ => trivial
  | r :: fs, due, due', h, p => by
    rw [List.map_cons]
    refine ⟨((srt_perm _).trans h.1).trans p, full_srow h.2 ?_⟩
    exact ((srt_perm r.2.1).append (srt_perm r.2.2)).symm
theorem fullEx_srow {rows : List Sd} (h : FullEx [] (rows.filter full1)) : FullEx [] ((rows.map srow).filter full1) := by
  obtain ⟨fs, p, f⟩ := h
  refine ⟨fs.map srow, ?_, full_srow f (.refl _)⟩
  rw [List.filter_map]
  have e : rows.filter (full1 ∘ srow) = rows.filter full1 := List.filter_congr fun r _ => by
    show decide (srt r.2.1 ≠ []) = decide (r.2.1 ≠ [])
    by_cases e : r.2.1 = []
    · rw [decide_eq_false (show ¬ srt r.2.1 ≠ [] from fun z => z (srt_nil.mpr e)), decide_eq_false (show ¬ r.2.1 ≠ [] from fun z => z e)]
    · rw [decide_eq_true (show srt r.2.1 ≠ [] from fun z => e (srt_nil.mp z)), decide_eq_true (show r.2.1 ≠ [] from e)]
  rw [e]
  exact p.map _
/-- the letter stands in no step -/
theorem rowsGo_out {z : Str} : ∀ {as bs : List Bd} {due : List Str}, z ∉ due → (∀ a ∈ as, z ∉ a.2) → bs.length ≤ 1 → ∀ r ∈ rowsGo due (as ++ bs), z ∉ r.2.2
  | [], bs, due, hd, _, hb, r, hr => by
    rw [List.nil_append] at hr
    match bs, hb, hr with
    | [], _, hr => cases hr
    | [b], _, hr =>
      rw [rowsGo, rowsGo, List.mem_singleton] at hr
      subst hr
      show z ∉ (if b.2 ≠ [] then due else [])
      split
      · exact hd
      · simp
    | _ :: _ :: _, hb, _ => exact absurd hb (by simp)
  | a :: as, bs, due, hd, ha, hb, r, hr => by
    rw [List.cons_append, rowsGo] at hr
    rcases List.mem_cons.mp hr with rfl | hr
    · show z ∉ (if a.2 ≠ [] then due else [])
      split
      · exact hd
      · simp
    · exact rowsGo_out (fun m => (List.mem_append.mp m).elim hd (ha a (List.mem_cons_self ..))) (fun x hx => ha x (List.mem_cons_of_mem _ hx)) hb r hr
theorem arr_out {z : Str} {bare : List Bd} (nd : (bare.map (·.1)).Nodup) (h : (bare.filter fun b => decide (z ∈ b.2)).length ≤ 1) : ∀ r ∈ arrRows z bare, z ∉ r.2.2 := fun r hr => by
  refine rowsGo_out (as := bare.filter fun b => !decide (z ∈ b.2)) (by simp) (fun a ha => ?_) h r ((arrRows_perm nd).mem_iff.mpr hr)
  have := (List.mem_filter.mp ha).2
  simpa using this
theorem rowsGo_sub : ∀ {bs : List Bd} {due : List Str}, ∀ r ∈ rowsGo due bs, (∀ w ∈ r.2.2, w ∈ due ∨ ∃ b ∈ bs, w ∈ b.2) ∧ r.2.2.length ≤ due.length + (bs.flatMap fun b => b.2).length
  | [], _, r, hr => by cases hr
  | b :: bs, due, r, hr => by
    rw [rowsGo] at hr
    rcases List.mem_cons.mp hr with rfl | hr
    · show (∀ w ∈ (if b.2 ≠ [] then due else []), _) ∧ (if b.2 ≠ [] then due else []).length ≤ _
      split
      · exact ⟨fun w hw => .inl hw, by omega⟩
      · exact ⟨fun w hw => absurd hw (by simp), Nat.zero_le _⟩
    · obtain ⟨h1, h2⟩ := rowsGo_sub r hr
      rw [List.length_append] at h2
      refine ⟨fun w hw => ?_, by rw [List.flatMap_cons, List.length_append]; omega⟩
      rcases h1 w hw with z | ⟨x, hx, hw⟩
      · rcases List.mem_append.mp z with z | z
        · exact .inl z
        · exact .inr ⟨b, List.mem_cons_self .., z⟩
      · exact .inr ⟨x, List.mem_cons_of_mem _ hx, hw⟩
/-- bare sides that can be arranged -/
structure OkB (bare : List Bd) : Prop where
  ne : bare ≠ []
  few : bare.length ≤ 20
  name : ∀ b ∈ bare, letB b.1 = true
  part : ∀ b ∈ bare, ∀ w ∈ b.2, letB w = true
  low : (bare.flatMap fun b => b.2).length ≤ 30
  dis : (bare.map (·.1)).Nodup
  out : ∀ b ∈ bare, ∀ w ∈ b.2, w ∉ bare.map (·.1)
theorem flatB_one {bare : List Bd} {b : Bd} (h : b ∈ bare) : b.2.length ≤ (bare.flatMap fun b => b.2).length := by
  induction bare with
  | nil => cases h
  | cons u rows ih =>
    rw [List.flatMap_cons, List.length_append]
    rcases List.mem_cons.mp h with rfl | h
    · omega
    · have := ih h; omega
theorem OkB.p {bare : List Bd} (h : OkB bare) : OkP (bare.map toB) := by
  have e : (bare.map toB).map (·.1) = bare.map (·.1) := by rw [List.map_map]; rfl
  refine ⟨fun z => h.ne (List.map_eq_nil_iff.mp z), by rw [List.length_map]; exact h.few, fun r hr => ?_, fun r hr l hl => ?_, fun r hr => ?_, by rw [e]; exact h.dis, fun r hr l hl x hx => ?_⟩
  · obtain ⟨u, hu, rfl⟩ := List.mem_map.mp hr; exact h.name u hu
  · obtain ⟨u, hu, rfl⟩ := List.mem_map.mp hr
    rw [List.mem_singleton.mp hl]
    exact ⟨h.part u hu, Nat.le_trans (flatB_one hu) h.low⟩
  · obtain ⟨u, hu, rfl⟩ := List.mem_map.mp hr; exact (by decide : 1 ≤ 5)
  · obtain ⟨u, hu, rfl⟩ := List.mem_map.mp hr
    rw [e]
    rw [List.mem_singleton.mp hl] at hx
    exact h.out u hu x hx
theorem OkB.rows {bare : List Bd} (h : OkB bare) (z : Str) : Rows (arrRows z bare) := by
  have e : (arrRows z bare).map (·.1) = bare.map (·.1) := by unfold arrRows; rw [List.map_map]; rfl
  have p := arrOrd_perm z bare
  have sub : ∀ r ∈ arrRows z bare, (∀ w ∈ r.2.2, ∃ b ∈ bare, w ∈ b.2) ∧ r.2.2.length ≤ 30 := fun r hr => by
    obtain ⟨h1, h2⟩ := rowsGo_sub r ((arrRows_perm h.dis).mem_iff.mpr hr)
    refine ⟨fun w hw => ?_, ?_⟩
    · obtain ⟨b, hb, hw⟩ := (h1 w hw).resolve_left (fun z => nomatch z)
      exact ⟨b, p.mem_iff.mp hb, hw⟩
    · have : ((arrOrd z bare).flatMap fun b => b.2).length = (bare.flatMap fun b => b.2).length := (p.flatMap_right _).length_eq
      have := h.low
      simp only [List.length_nil] at h2
      omega
  refine ⟨fun k => h.ne (by unfold arrRows at k; exact List.map_eq_nil_iff.mp k), by unfold arrRows; rw [List.length_map]; exact h.few, fun r hr => ?_, fun r hr => ?_, fun r hr => ?_, by rw [e]; exact h.dis, fun r hr x hx => ?_⟩
  · obtain ⟨u, hu, rfl⟩ := List.mem_map.mp hr; exact h.name u hu
  · obtain ⟨u, hu, rfl⟩ := List.mem_map.mp hr; exact ⟨h.part u hu, Nat.le_trans (flatB_one hu) h.low⟩
  · obtain ⟨h1, h2⟩ := sub r hr
    refine ⟨fun w hw => ?_, h2⟩
    obtain ⟨b, hb, hw⟩ := h1 w hw
    exact h.part b hb w hw
  · rw [e]
    rcases List.mem_append.mp hx with k | k
    · obtain ⟨u, hu, rfl⟩ := List.mem_map.mp hr
      exact h.out u hu x k
    · obtain ⟨b, hb, hw⟩ := (sub r hr).1 x k
      exact h.out b hb x hw
/-- no hole where the table is full -/
theorem fits_anti {a b : Sd} (ne : a.2.1 ≠ []) (h : Fits a b) (k : Fits b a) : False := Fits.ne ne (h.trans k)
theorem full_order {R : List Sd} (h : FullEx [] (R.filter full1)) : ∃ fs, orderM R = .inl fs ∧ FullFrom [] fs := by
  obtain ⟨gs, p, f⟩ := h
  have pg := (full_chain f).1
  have pc : (R.filter full1).Pairwise Comp := (p.pairwise_iff (fun k => k.symm)).mp (pg.imp fun k => .inl k)
  obtain ⟨fs, e⟩ : ∃ fs, ordGo [] R = .inl fs := ordGo_ok (by simp) ((List.pairwise_filter.mp pc).imp fun {a b} k n1 n2 => (k (full_t n1) (full_t n2)).imp ahead_of_fits ahead_of_fits)
  obtain ⟨c1, c2⟩ := order_chain (rows := R) e
  have ne : ∀ x ∈ gs, x.2.1 ≠ [] := fun x hx => of_decide_eq_true (List.mem_filter.mp (p.mem_iff.mp hx)).2
  have eq : fs = gs := List.Perm.eq_of_pairwise (le := Fits) (fun a b ha hb h1 h2 => (fits_anti (ne b hb) h2 h1).elim) c1 pg (c2.trans p.symm)
  exact ⟨fs, e, eq ▸ f⟩
theorem holeGo_full {szs : List Str} : ∀ {fs : List Sd} {due : List Str}, FullFrom due fs → due.Pairwise sle → (∀ r ∈ fs, r.2.2.Pairwise sle) → holeGo szs due fs = none
  | [], _, _, _, _ => rfl
  | r :: fs, due, h, sd, sr => by
    have e : r.2.2 = due := srt_unique h.1 (sr r (List.mem_cons_self ..)) sd
    rw [holeGo, if_pos e]
    refine holeGo_full (due := srt (r.2.1 ++ r.2.2)) ?_ (srt_pw _) fun x hx => sr x (List.mem_cons_of_mem _ hx)
    have := h.2
    cases fs with
    | nil => trivial
    | cons u fs => exact ⟨this.1.trans (srt_perm _).symm, this.2⟩
end CP
namespace CP
open L2 PySem PyProof.Rows
def BareAt (H : Hp) (p : Addr) (bare : List Bd) : Prop := ∃ vs, H p = some (.lst vs) ∧ Paired (PairAt H) vs bare
theorem BareAt.mono {H H' : Hp} {p : Addr} {bare : List Bd} (h : BareAt H p bare) (s : Same H H') : BareAt H' p bare := by
  obtain ⟨vs, e, pr⟩ := h
  exact ⟨vs, s _ _ e, pd_mono pr fun _ _ z => z.mono s⟩
theorem pairs_mono {H H' : Hp} {vs : List V} {bare : List Bd} (h : Paired (PairAt H) vs bare) (s : Same H H') : Paired (PairAt H') vs bare := pd_mono h fun _ _ z => z.mono s
theorem pair_at {H H' : Hp} {vs : List V} {bare : List Bd} (pr : Paired (PairAt H) vs bare) (s : Same H H') {i : Nat} {x : V} (hx : vs[i]? = some x) :
    ∃ b t a, bare[i]? = some b ∧ b ∈ bare ∧ x = .ref t ∧ H' t = some (.tup [.str b.1, .ref a]) ∧ H' a = some (.lst (strL b.2)) := by
  obtain ⟨b, hb, t, a, e, h1, h2⟩ := pd_get pr hx
  exact ⟨b, t, a, hb, List.mem_of_getElem? hb, e, s _ _ h1, s _ _ h2⟩
theorem rowsGo_get : ∀ {bs : List Bd} {due : List Str} {i : Nat} {b : Bd}, bs[i]? = some b → (rowsGo due bs)[i]? = some (b.1, b.2, if b.2 ≠ [] then due ++ (bs.take i).flatMap (fun b => b.2) else [])
  | [], _, _, _, h => by simp at h
  | c :: bs, due, 0, b, h => by
    simp only [List.getElem?_cons_zero, Option.some.injEq] at h
    subst h
    rw [rowsGo]
    simp
  | c :: bs, due, i + 1, b, h => by
    rw [List.getElem?_cons_succ] at h
    rw [rowsGo, List.getElem?_cons_succ, rowsGo_get h, List.take_succ_cons, List.flatMap_cons, List.append_assoc]
theorem putK_len (kvs : List (Key × V)) (k : Key) (v : V) : (putK kvs k v).length ≤ kvs.length + 1 := by
  unfold putK
  split
  · rw [List.length_map]; omega
  · rw [List.length_append]; exact Nat.le_refl _
theorem rowsGo_len (bs : List Bd) (due : List Str) : (rowsGo due bs).length = bs.length := by
  have := congrArg List.length (rowsGo_names bs due)
  rwa [List.length_map, List.length_map] at this
theorem last_names {p : Bd → Bool} (bare : List Bd) : (bare.map fun b => if p b = true then some (V.str b.1) else none).filterMap id = strL ((bare.filter p).map (·.1)) := by
  induction bare with
  | nil => rfl
  | cons b l ih =>
    rw [List.map_cons, List.filter_cons]
    cases e : p b with
    | true => simp only [if_true, List.filterMap_cons, id_eq]; rw [ih]; rfl
    | false => simp only [Bool.false_eq_true, if_false, List.filterMap_cons, id_eq]; exact ih
theorem name_last {z : Str} {bare : List Bd} (nd : (bare.map (·.1)).Nodup) {b : Bd} (hb : b ∈ bare) : b.1 ∈ (bare.filter fun b => decide (z ∈ b.2)).map (·.1) ↔ z ∈ b.2 := by
  constructor
  · intro h
    obtain ⟨c, hc, e⟩ := List.mem_map.mp h
    obtain ⟨h1, h2⟩ := List.mem_filter.mp hc
    have : c = b := by
      refine Classical.byContradiction fun ne => ?_
      obtain ⟨i, hi, ei⟩ := List.mem_iff_getElem.mp h1
      obtain ⟨j, hj, ej⟩ := List.mem_iff_getElem.mp hb
      have ij : i ≠ j := fun z => ne (by subst z; rw [← ei, ← ej])
      have di := List.pairwise_iff_getElem.mp nd
      have li : i < (bare.map (·.1)).length := by rw [List.length_map]; exact hi
      have lj : j < (bare.map (·.1)).length := by rw [List.length_map]; exact hj
      rcases Nat.lt_or_gt_of_ne ij with l | l
      · exact di i j li lj l (by rw [List.getElem_map, List.getElem_map, ei, ej, e])
      · exact di j i lj li l (by rw [List.getElem_map, List.getElem_map, ei, ej, e])
    subst this
    exact of_decide_eq_true h2
  · intro h
    exact List.mem_map.mpr ⟨b, List.mem_filter.mpr ⟨hb, decide_eq_true h⟩, rfl⟩
section
variable {K : PySem.W.Frag} {a : Addr} {g : TG} {tt : TT} {te : TE} {vs : List Nat} {σ : L2.St} {H1 : Hp} {D : Addr} {Qd : Hp → Prop}
/-- a comprehension over bare sides that leaves some out -/
theorem lc_bdF {xs : List V} {fs : List Bd} (p : Bd → Bool) (pr : Paired (PairAt H1) xs fs) (hD : H1 D = none) (ha : SqL K H1 a xs) (hz : fs.length < sizeLine)
    (hs : ∀ (i : Nat) (x : V) (r : Bd) (H : Hp) (N : Hp → Prop), xs[i]? = some x → fs[i]? = some r → PairAt H x r → Same H1 H → (∀ H', p r = false → Same H H' → N H') → (∀ H', p r = true → Same H H' → ∃ acc, H' D = some (.lst acc) ∧ acc.length < sizeLine ∧ N (upd H' D (.lst (acc ++ [x])))) →
      g x (wipe σ vs) H fun σ2 H2 => wipe σ2 vs = wipe σ vs ∧ tt σ2 H2 fun b H3 => if b = true then te σ2 H3 fun y H4 => ∃ acc, H4 D = some (.lst acc) ∧ acc.length < sizeLine ∧ N (upd H4 D (.lst (acc ++ [y]))) else N H3)
    (hd : ∀ H acc, Same H1 H → H D = some (.lst acc) → Paired (PairAt H) acc (fs.filter p) → Qd H) :
    ∃ W : Nat → Nat → Hp → Prop, (∃ m, W 0 m (upd H1 D (.lst []))) ∧ ∀ i m H, W i m H →
      ((Itl K a).stop i H ∧ Qd H) ∨ ((Itl K a).go i H ∧ ∃ Nx : Hp → Prop, (∀ H', Nx H' → ∃ m', m' < m ∧ W (i + 1) m' H') ∧ ∀ x H', (Itl K a).yld i H x H' → g x (wipe σ vs) H' fun σ2 H2 => wipe σ2 vs = wipe σ vs ∧ tt σ2 H2 fun b H3 =>
        if b = true then te σ2 H3 fun y H4 => ∃ acc, H4 D = some (.lst acc) ∧ acc.length < sizeLine ∧ Nx (upd H4 D (.lst (acc ++ [y]))) else Nx H3) := by
  refine lc_tell (β := Bd) PairAt (fs.map fun r => if p r = true then some r else none) hD ha (by rw [List.length_map]; exact pd_len pr) (by rw [List.length_map]; exact hz) (fun _ _ _ _ s z => PairAt.mono z s) (fun i x o H hx ho s1 _ N no yes => ?_) fun H acc s1 hacc pp => ?_
  · obtain ⟨r, hr, sr⟩ := pd_get pr hx
    have e : o = if p r = true then some r else none := by
      rw [List.getElem?_map, hr] at ho
      exact (Option.some.inj ho).symm
    subst e
    refine hs i x r H N hx hr (sr.mono s1) s1 (fun H' h s2 => no H' (by rw [h]; rfl) s2) fun H' h s2 => yes H' x r (by rw [h]; rfl) s2 ?_
    have m := hide_mono (D := D) (s1.trans s2)
    rw [hide_none hD] at m
    exact sr.mono m
  · rw [filter_opt] at pp
    exact hd H acc s1 hacc pp
end
end CP
namespace CP
open L2 PySem PyProof.Rows
theorem str_short {x : Str} (h : letB x = true) : PyData.leavesShort 13 (.str x) = true := by
  simp only [PyData.leavesShort]
  unfold letB at h
  rw [Bool.and_eq_true] at h
  rw [List.all_eq_true]
  intro c hc
  have := small_low c (of_decide_eq_true (List.all_eq_true.mp h.2 c hc))
  exact decide_eq_true (Nat.lt_trans this (by decide))
def bdD (b : Bd) : PyData := partD (toB b)
theorem bd_dp {K : PySem.W.Frag} {H : Hp} {vs : List V} {bare : List Bd} (h : Paired (PairAt H) vs bare) : DpAll K H vs (bare.map bdD) := by
  induction h with
  | nil => exact .nil
  | cons h _ ih =>
    obtain ⟨t, a, rfl, h1, h2⟩ := h
    exact .cons (.tup (.of h1) (.cons (.str _) (.cons (.lst (.of h2) (dpA_strs _)) .nil))) ih
theorem strs_show {l : List Str} (h : ∀ w ∈ l, letB w = true) : PyData.showableAll (l.map .str) = true ∧ PyData.hasDictAll (l.map .str) = false ∧ PyData.leavesShortAll 13 (l.map .str) = true ∧ PyData.weightAll (l.map .str) ≤ 11 * l.length := by
  induction l with
  | nil => exact ⟨by simp [PyData.showableAll], by simp [PyData.hasDictAll], by simp [PyData.leavesShortAll], by simp [PyData.weightAll]⟩
  | cons x l ih =>
    obtain ⟨i1, i2, i3, i4⟩ := ih fun w hw => h w (List.mem_cons_of_mem _ hw)
    have hx := h x (List.mem_cons_self ..)
    have sh := str_short hx
    have zl : x.cps.size ≤ 10 := (let_len hx).2
    refine ⟨by simp [PyData.showableAll, PyData.showable, i1], by simp [PyData.hasDictAll, PyData.hasDict, i2], ?_, ?_⟩
    · simp only [List.map_cons, PyData.leavesShortAll, sh, i3, Bool.and_self]
    · simp only [List.map_cons, PyData.weightAll, PyData.weight, List.length_cons]
      omega
theorem bare_show {bare : List Bd} (hn : ∀ b ∈ bare, letB b.1 = true) (hp : ∀ b ∈ bare, (∀ w ∈ b.2, letB w = true) ∧ b.2.length ≤ 30) : PyData.showableAll (bare.map bdD) = true ∧ PyData.hasDictAll (bare.map bdD) = false ∧ PyData.leavesShortAll 13 (bare.map bdD) = true ∧ PyData.weightAll (bare.map bdD) ≤ 400 * bare.length ∧ PyData.depthAll (bare.map bdD) ≤ 2 := by
  induction bare with
  | nil => exact ⟨by simp [PyData.showableAll], by simp [PyData.hasDictAll], by simp [PyData.leavesShortAll], by simp [PyData.weightAll], by simp [PyData.depthAll]⟩
  | cons b l ih =>
    obtain ⟨i1, i2, i3, i4, i5⟩ := ih (fun x hx => hn x (List.mem_cons_of_mem _ hx)) fun x hx => hp x (List.mem_cons_of_mem _ hx)
    have hb := hn b (List.mem_cons_self ..)
    have pb := hp b (List.mem_cons_self ..)
    have sb := str_short hb
    have zl : b.1.cps.size ≤ 10 := (let_len hb).2
    obtain ⟨s1, s2, s3, s4⟩ := strs_show pb.1
    obtain ⟨a1, a2⟩ := lay_strs (fun w hw => let_lay (pb.1 w hw))
    have e1 : (bdD b).showable = true := by simp [bdD, partD, partsD, toB, PyData.showable, PyData.showableAll, s1]
    have e2 : (bdD b).hasDict = false := by simp [bdD, partD, partsD, toB, PyData.hasDict, PyData.hasDictAll, s2]
    have e3 : PyData.leavesShort 13 (bdD b) = true := by
      simp only [bdD, partD, partsD, toB, List.map_cons, List.map_nil, PyData.leavesShort, PyData.leavesShortAll, s3, Bool.and_true]
      exact sb
    have e4 : (bdD b).weight ≤ 380 := by
      simp only [bdD, partD, partsD, toB, List.map_cons, List.map_nil, PyData.weight, PyData.weightAll]
      omega
    have e5 : (bdD b).depth ≤ 2 := by
      simp only [bdD, partD, partsD, toB, List.map_cons, List.map_nil, PyData.depth, PyData.depthAll, a2]
      omega
    rw [List.map_cons]
    refine ⟨by simp [PyData.showableAll, e1, i1], by simp [PyData.hasDictAll, e2, i2], by simp [PyData.leavesShortAll, e3, i3], ?_, ?_⟩
    · simp only [PyData.weightAll, List.length_cons]
      omega
    · simp only [PyData.depthAll]
      omega
def bareText (bare : List Bd) : Str := (PyData.list (bare.map bdD)).shown
theorem bare_repr {K : PySem.W.Frag} {H : Hp} {Q : VK} {p : Addr} {bare : List Bd} (h : BareAt H p bare) (hB : OkB bare) (q : Q (.str (bareText bare)) H) : rRepr K [.ref p] H Q := by
  obtain ⟨vs, hp, pr⟩ := h
  obtain ⟨h1, h2, h3, h4, h5⟩ := bare_show hB.name fun b hb => ⟨hB.part b hb, Nat.le_trans (flatB_one hb) hB.low⟩
  have few := hB.few
  refine ⟨p, _, rfl, .lst (.of hp) (bd_dp pr), by simp only [PyData.showable]; exact h1, by simp only [PyData.hasDict]; exact h2, by simp only [PyData.depth]; omega, ?_, q⟩
  refine PyData.shown_fits (B := 13) (by decide) (by decide) (by simp only [PyData.leavesShort]; exact h3) ?_
  simp only [PyData.weight]
  omega
theorem pairs_sq {K : PySem.W.Frag} {H : Hp} {bare : List Bd} : ∀ {vs ws : List V}, Paired (PairAt H) vs bare → Paired (PairAt H) ws bare → Paired (SqV K H 5) vs ws := by
  induction bare with
  | nil =>
    intro vs ws h k
    cases h
    cases k
    exact .nil
  | cons b bare ih =>
    intro vs ws h k
    cases h with
    | cons h1 h2 =>
      cases k with
      | cons k1 k2 =>
        refine .cons ?_ (ih h2 k2)
        obtain ⟨t, a, rfl, a1, a2⟩ := h1
        obtain ⟨u, c, rfl, b1, b2⟩ := k1
        have st : ∀ {n : Nat} {l : List Str}, Paired (SqV K H (n + 1)) (strL l) (strL l) := by
          intro n l
          induction l with
          | nil => exact .nil
          | cons x l ih => exact .cons (.inl ⟨rfl, rfl⟩) ih
        exact .inr (.inr (.inr (.inl ⟨t, u, _, _, rfl, rfl, .of a1, .of b1, .cons (.inl ⟨rfl, rfl⟩) (.cons (.inr (.inr (.inl ⟨a, c, _, _, rfl, rfl, .of a2, .of b2, st⟩))) .nil)⟩)))
theorem srow_srow (rows : List Sd) : (rows.map srow).map srow = rows.map srow := by
  rw [List.map_map]
  refine List.map_congr_left fun r _ => ?_
  show (r.1, srt (srt r.2.1), srt (srt r.2.2)) = (r.1, srt r.2.1, srt r.2.2)
  rw [srt_srt, srt_srt]
def sbare (bare : List Bd) : List Bd := bare.map fun b => (b.1, srt b.2)
theorem arr_bare (z : Str) (bare : List Bd) : ((arrRows z bare).map srow).map (fun r => ((r.1, r.2.1) : Bd)) = sbare bare := by
  unfold arrRows sbare
  rw [List.map_map, List.map_map]
  rfl
theorem flat_map {α β γ : Type} (g : α → β) (h : β → List γ) (h2 : α → List γ) (e : ∀ a, (h (g a)).length = (h2 a).length) : ∀ l : List α, ((l.map g).flatMap h).length = (l.flatMap h2).length
  | [] => rfl
  | a :: l => by rw [List.map_cons, List.flatMap_cons, List.flatMap_cons, List.length_append, List.length_append, e, flat_map g h h2 e l]
theorem arr_flat (z : Str) (bare : List Bd) : (((arrRows z bare).map srow).flatMap fun r => r.2.1).length = (bare.flatMap fun b => b.2).length := by
  unfold arrRows
  rw [List.map_map]
  exact flat_map (srow ∘ fun b : Bd => ((b.1, b.2, stepOf (rowsGo [] (arrOrd z bare)) b.1) : Sd)) (fun r : Sd => r.2.1) (fun b : Bd => b.2) (fun b => srt_len b.2) bare
end CP

set_option Elab.async false
set_option linter.all false
set_option maxRecDepth 100000
set_option maxHeartbeats 4000000
set_option autoImplicit false
/-! the count that no cell has -/
namespace CP
open L2 PySem PyProof.Rows
theorem two_len : ∀ l : List Str, prodF (fun _ => 2) l = 2 ^ l.length
  | [] => rfl
  | k :: l => by rw [prodF_cons, two_len l, List.length_cons, Int.pow_succ, Int.mul_comm]
theorem two_leH {a b : Nat} (h : a ≤ b) : (2 : Int) ^ a ≤ 2 ^ b := by
  have := Nat.pow_le_pow_right (n := 2) (by decide) h
  exact_mod_cast this
theorem two_pos (a : Nat) : (1 : Int) ≤ 2 ^ a := by
  have := Nat.one_le_two_pow (n := a)
  exact_mod_cast this
theorem sub_len {l m : List Str} (h : ∀ w, l.count w ≤ m.count w) : l.length ≤ m.length := by
  induction l generalizing m with
  | nil => exact Nat.zero_le _
  | cons k l ih =>
    have c := h k
    rw [List.count_cons_self] at c
    have km : k ∈ m := List.count_pos_iff.mp (by omega)
    have i := ih (m := m.erase k) fun w => by
      have c2 := h w
      by_cases e : w = k
      · subst e
        rw [List.count_cons_self] at c2
        rw [List.count_erase_self]
        omega
      · rw [List.count_cons_of_ne (fun z => e z.symm)] at c2
        rw [List.count_erase_of_ne e]
        exact c2
    rw [List.length_erase_of_mem km] at i
    have := List.length_pos_of_mem km
    rw [List.length_cons]
    omega
/-- indices of sides, and what they come to -/
def sumT (l : List (Sd × Int)) : Int := (l.map fun q => q.2 * prodF (fun _ => 2) q.1.2.2).sum
theorem sum_far {D : Int} (D0 : 1 ≤ D) : ∀ {l : List (Sd × Int)}, (∀ q ∈ l, 0 ≤ q.2 ∧ 2 * D ≤ prodF (fun _ => 2) q.1.2.2) → sumT l = 0 ∨ 2 * D ≤ sumT l
  | [], _ => .inl rfl
  | q :: l, h => by
    obtain ⟨a, b⟩ := h q (List.mem_cons_self ..)
    have i := sum_far D0 (l := l) fun z hz => h z (List.mem_cons_of_mem _ hz)
    have e : sumT (q :: l) = q.2 * prodF (fun _ => 2) q.1.2.2 + sumT l := by unfold sumT; rw [List.map_cons, List.sum_cons]
    rw [e]
    by_cases z : q.2 = 0
    · rw [z, Int.zero_mul, Int.zero_add]
      exact i
    · have m : 1 * (2 * D) ≤ q.2 * prodF (fun _ => 2) q.1.2.2 := Int.mul_le_mul (by omega) b (by omega) a
      rcases i with i | i <;> (right; omega)
theorem hole_none {szs : List Str} {kv : List (Str × Int)} {n : Int} : ∀ {fs : List Sd} {due : List Str} {l : List (Sd × Int)} {x : Int}, holeGo szs due fs = some (kv, n) → fs.Pairwise Fits → (∀ r ∈ fs, ∀ w, due.count w ≤ r.2.2.count w) → (∀ r ∈ fs, srt r.2.2 = r.2.2) → srt due = due →
    l.map (·.1) = fs → (∀ q ∈ l, 0 ≤ q.2 ∧ q.2 < prodF (fun _ => 2) q.1.2.1) → 0 ≤ x → x < prodF (fun _ => 2) due → x + sumT l ≠ n
  | [], due, l, x, h, _, _, _, _, _, _, _, _ => by unfold holeGo at h; cases h
  | r :: fs, due, [], x, _, _, _, _, _, e, _, _, _ => by simp at e
  | r :: fs, due, (r2, c) :: l, x, h, hp, hc, hs, hd, e, hl, x0, x1 => by
    have er : r2 = r := by simpa using (List.cons.inj e).1
    have el : l.map (·.1) = fs := (List.cons.inj e).2
    subst er
    obtain ⟨c0, c1⟩ := hl _ (List.mem_cons_self ..)
    have c0 : 0 ≤ c := c0
    have c1 : c < prodF (fun _ => 2) r2.2.1 := c1
    obtain ⟨p1, p2⟩ := List.pairwise_cons.mp hp
    have es : sumT ((r2, c) :: l) = c * prodF (fun _ => 2) r2.2.2 + sumT l := by unfold sumT; rw [List.map_cons, List.sum_cons]
    unfold holeGo at h
    by_cases g : r2.2.2 = due
    · rw [if_pos g] at h
      rw [es, ← Int.add_assoc]
      have D1 := two_pos due.length
      rw [← two_len] at D1
      refine hole_none h p2 (fun s hs' w => ?_) (fun s hs' => hs s (List.mem_cons_of_mem _ hs')) (srt_srt _) el (fun q hq => hl q (List.mem_cons_of_mem _ hq)) ?_ ?_
      · rw [(srt_perm (r2.2.1 ++ r2.2.2)).count_eq]
        exact p1 s hs' w
      · rw [g]
        have := Int.mul_nonneg c0 (show (0 : Int) ≤ prodF (fun _ => 2) due by omega)
        omega
      · rw [prodF_perm (srt_perm _), prodF_append, g]
        have : c * prodF (fun _ => 2) due ≤ (prodF (fun _ => 2) r2.2.1 - 1) * prodF (fun _ => 2) due := Int.mul_le_mul_of_nonneg_right (by omega) (by omega)
        rw [Int.sub_mul, Int.one_mul] at this
        omega
    · rw [if_neg g] at h
      have en : prodF (fun _ => 2) due = n := by
        have := Option.some.inj h
        exact congrArg Prod.snd this
      have D1 := two_pos due.length
      have ll : due.length < r2.2.2.length := by
        have a := hc r2 (List.mem_cons_self ..)
        rcases Nat.lt_or_ge due.length r2.2.2.length with z | z
        · exact z
        · exfalso
          have b := sub_len a
          have pm : due.Perm r2.2.2 := by
            refine List.perm_iff_count.mpr fun w => Nat.le_antisymm (a w) ?_
            refine Classical.byContradiction fun k => ?_
            have k : due.count w < r2.2.2.count w := by omega
            have s := sub_len (l := w :: due) (m := r2.2.2) fun v => by
              rw [List.count_cons]
              have := a v
              split
              · rename_i e
                have : w = v := by simpa using e
                subst this
                omega
              · omega
            rw [List.length_cons] at s
            omega
          have := srt_congr pm
          rw [hd, hs r2 (List.mem_cons_self ..)] at this
          exact g this.symm
      have far : ∀ q ∈ (r2, c) :: l, 0 ≤ q.2 ∧ 2 * prodF (fun _ => 2) due ≤ prodF (fun _ => 2) q.1.2.2 := fun q hq => by
        refine ⟨(hl q hq).1, ?_⟩
        have qm : q.1 ∈ r2 :: fs := by rw [← e]; exact List.mem_map_of_mem hq
        have lq : due.length + 1 ≤ q.1.2.2.length := by
          rcases List.mem_cons.mp qm with z | z
          · rw [z]; omega
          · have a := sub_len (p1 q.1 z)
            rw [List.length_append] at a
            omega
        rw [two_len, two_len]
        have := two_leH lq
        rw [Int.pow_succ] at this
        omega
      rw [← en]
      rw [← two_len] at D1
      rcases sum_far D1 far with z | z <;> omega
theorem hole_many {szs : List Str} {kv : List (Str × Int)} {n : Int} : ∀ {fs : List Sd} {due : List Str}, holeGo szs due fs = some (kv, n) → (∀ r ∈ fs, r.2.1 ≠ []) → n < prodF (fun _ => 2) due * prodZ (fun _ => 2) fs
  | [], due, h, _ => by unfold holeGo at h; cases h
  | r :: fs, due, h, ne => by
    have one : ∀ l : List Sd, 1 ≤ prodZ (fun _ => 2) l := by
      intro l
      induction l with
      | nil => exact Int.le_refl 1
      | cons s l ih =>
        unfold prodZ
        have a := two_pos s.2.1.length
        rw [← two_len] at a
        have := Int.mul_le_mul a ih (by decide) (by omega)
        rwa [Int.mul_one] at this
    unfold holeGo at h
    show n < prodF (fun _ => 2) due * (prodF (fun _ => 2) r.2.1 * prodZ (fun _ => 2) fs)
    by_cases g : r.2.2 = due
    · rw [if_pos g] at h
      have i := hole_many h fun s hs => ne s (List.mem_cons_of_mem _ hs)
      rw [prodF_perm (srt_perm _), prodF_append, g] at i
      rw [← Int.mul_assoc, Int.mul_comm (prodF _ due)]
      exact i
    · rw [if_neg g] at h
      have en : prodF (fun _ => 2) due = n := congrArg Prod.snd (Option.some.inj h)
      have D1 := two_pos due.length
      rw [← two_len, en] at D1
      rw [en]
      have z2 : 2 ≤ prodF (fun _ => 2) r.2.1 := by
        rw [two_len]
        have : 1 ≤ r.2.1.length := by
          have := ne r (List.mem_cons_self ..)
          cases hh : r.2.1 with
          | nil => exact absurd hh this
          | cons _ _ => simp
        exact two_leH this
      have m := Int.mul_le_mul z2 (one fs) (by decide) (by omega)
      have := Int.mul_le_mul_of_nonneg_left m (show 0 ≤ n by omega)
      omega
end CP

set_option Elab.async false
set_option linter.all false
set_option maxRecDepth 100000
set_option maxHeartbeats 4000000
set_option autoImplicit false
/-! the hole stands as law_hole_right asks -/
namespace CP
open L2 PySem PyProof.Rows
theorem perm_map_liftH {α β : Type} {f : α → β} {l m : List β} (p : l.Perm m) : ∀ {G : List α}, m = G.map f → ∃ gs : List α, gs.Perm G ∧ gs.map f = l := by
  induction p with
  | nil =>
    intro G h
    have : G = [] := List.map_eq_nil_iff.mp h.symm
    exact ⟨[], by rw [this], rfl⟩
  | cons x _ ih =>
    intro G h
    cases G with
    | nil => cases h
    | cons g G =>
      injection h with h1 h2
      obtain ⟨gs, p, e⟩ := ih h2
      exact ⟨g :: gs, p.cons g, by rw [List.map_cons, e, ← h1]⟩
  | swap x y l =>
    intro G h
    match G, h with
    | a :: b :: G, h =>
      injection h with h1 h2
      injection h2 with h2 h3
      exact ⟨b :: a :: G, .swap a b G, by rw [List.map_cons, List.map_cons, ← h1, ← h2, ← h3]⟩
  | trans _ _ ih1 ih2 =>
    intro G h
    obtain ⟨gs, p, e⟩ := ih2 h
    obtain ⟨hs, p2, e2⟩ := ih1 e.symm
    exact ⟨hs, p2.trans p, e2⟩
theorem filter_srowH (rows : List Sd) : (rows.map srow).filter full1 = (rows.filter full1).map srow := by
  rw [List.filter_map]
  congr 1
  refine List.filter_congr fun r _ => ?_
  show decide (srt r.2.1 ≠ []) = decide (r.2.1 ≠ [])
  by_cases e : r.2.1 = []
  · rw [decide_eq_false (show ¬ srt r.2.1 ≠ [] from fun z => z (srt_nil.mpr e)), decide_eq_false (show ¬ r.2.1 ≠ [] from fun z => z e)]
  · rw [decide_eq_true (show srt r.2.1 ≠ [] from fun z => e (srt_nil.mp z)), decide_eq_true (show r.2.1 ≠ [] from e)]
theorem full_dueH {fs : List Sd} {due due' : List Str} (h : FullFrom due fs) (p : due.Perm due') : FullFrom due' fs := by
  cases fs with
  | nil => trivial
  | cons r fs => exact ⟨h.1.trans p, h.2⟩
theorem prodZ_srow (f : Str → Int) : ∀ rows : List Sd, prodZ f (rows.map srow) = prodZ f rows
  | [] => rfl
  | r :: rows => by
    show prodF f (srt r.2.1) * prodZ f (rows.map srow) = prodF f r.2.1 * prodZ f rows
    rw [prodZ_srow f rows, prodF_perm (srt_perm _)]
theorem sum_permH {l m : List Int} (p : l.Perm m) : l.sum = m.sum := by
  induction p with
  | nil => rfl
  | cons x _ ih => rw [List.sum_cons, List.sum_cons, ih]
  | swap x y l => rw [List.sum_cons, List.sum_cons, List.sum_cons, List.sum_cons]; omega
  | trans _ _ a b => exact a.trans b
theorem srt_nil0 : srt ([] : List Str) = [] := srt_nil.mpr rfl
theorem hole_kv {szs : List Str} {kv : List (Str × Int)} {n : Int} : ∀ {fs : List Sd} {due : List Str}, holeGo szs due fs = some (kv, n) → kv = allTwo szs ∧ 1 ≤ n
  | [], due, h => by unfold holeGo at h; cases h
  | r :: fs, due, h => by
    unfold holeGo at h
    by_cases g : r.2.2 = due
    · rw [if_pos g] at h
      exact hole_kv h
    · rw [if_neg g] at h
      have e := Option.some.inj h
      have e1 := congrArg Prod.fst e
      have e2 : prodF (fun _ => 2) due = n := congrArg Prod.snd e
      refine ⟨e1.symm, ?_⟩
      have := two_pos due.length
      rw [← two_len] at this
      rw [← e2]
      exact this
theorem hole_full {szs : List Str} : ∀ {fs : List Sd} {due : List Str}, (∀ r ∈ fs, srt r.2.2 = r.2.2) → srt due = due → (holeGo szs due fs = none ↔ FullFrom due fs)
  | [], due, _, _ => ⟨fun _ => trivial, fun _ => rfl⟩
  | r :: fs, due, hs, hd => by
    unfold holeGo FullFrom
    have hs2 := fun s hs' => hs s (List.mem_cons_of_mem r hs')
    have hr := hs r (List.mem_cons_self ..)
    by_cases g : r.2.2 = due
    · rw [if_pos g]
      have i := hole_full (szs := szs) hs2 (srt_srt (r.2.1 ++ r.2.2))
      rw [i]
      exact ⟨fun h => ⟨g ▸ List.Perm.refl _, full_dueH h (srt_perm _)⟩, fun h => full_dueH h.2 (srt_perm _).symm⟩
    · rw [if_neg g]
      refine ⟨fun h => (by cases h), fun h => (g ?_).elim⟩
      have := srt_congr h.1
      rw [hr, hd] at this
      exact this
/-- what is asked of a hole's numbers -/
theorem hole_num {rows fs : List Sd} {kv : List (Str × Int)} {n : Int} (e : orderM (rows.map srow) = .inl fs) (h : holeM (sizesM (rows.map srow)) fs = some (kv, n)) :
    kv = allTwo (sizesM rows) ∧ 1 ≤ n ∧ n < prodZ (fun _ => 2) rows := by
  obtain ⟨pw, pm⟩ := order_chain e
  unfold holeM at h
  obtain ⟨e1, e2⟩ := hole_kv h
  rw [sizes_srow] at e1
  refine ⟨e1, e2, ?_⟩
  have m := hole_many h fun r hr => of_decide_eq_true (List.mem_filter.mp (pm.mem_iff.mp hr)).2
  rw [prodZ_perm pm, ← prodZ_filter, prodZ_srow] at m
  rwa [show prodF (fun _ => (2 : Int)) [] = 1 from rfl, Int.one_mul] at m
theorem hole_free {rows fs : List Sd} {kv : List (Str × Int)} {n : Int} (e : orderM (rows.map srow) = .inl fs) (h : holeM (sizesM (rows.map srow)) fs = some (kv, n)) {l : List (Sd × Int)}
    (lp : (l.map (·.1)).Perm (rows.filter full1)) (lb : ∀ q ∈ l, 0 ≤ q.2 ∧ q.2 < prodF (fun _ => 2) q.1.2.1) : (l.map fun q => q.2 * prodF (fun _ => 2) q.1.2.2).sum ≠ n := by
  obtain ⟨pw, pm⟩ := order_chain e
  unfold holeM at h
  rw [filter_srowH] at pm
  have p2 : fs.Perm ((l.map fun q => (srow q.1, q.2)).map (·.1)) := by
    refine pm.trans ?_
    rw [List.map_map]
    have := (lp.map srow).symm
    rw [List.map_map] at this
    exact this
  obtain ⟨gs, gp, ge⟩ := perm_map_liftH p2 rfl
  have es : sumT gs = (l.map fun q => q.2 * prodF (fun _ => 2) q.1.2.2).sum := by
    unfold sumT
    rw [sum_permH (gp.map _), List.map_map]
    congr 1
    refine List.map_congr_left fun q _ => ?_
    show q.2 * prodF (fun _ => 2) (srt q.1.2.2) = _
    rw [prodF_perm (srt_perm _)]
  have srtd : ∀ r ∈ fs, srt r.2.2 = r.2.2 := fun r hr => by
    obtain ⟨u, _, rfl⟩ := List.mem_map.mp (pm.mem_iff.mp hr)
    exact srt_srt _
  have := hole_none (x := 0) h pw (fun r _ w => by simp) srtd srt_nil0 ge (fun q hq => by
    obtain ⟨u, hu, rfl⟩ := List.mem_map.mp (gp.mem_iff.mp hq)
    have := lb u hu
    refine ⟨this.1, ?_⟩
    show u.2 < prodF (fun _ => 2) (srt u.1.2.1)
    rw [prodF_perm (srt_perm _)]
    exact this.2) (Int.le_refl 0) (by decide)
  rw [Int.zero_add, es] at this
  exact this
end CP

set_option Elab.async false
set_option linter.all false
set_option maxRecDepth 100000
set_option maxHeartbeats 4000000
set_option autoImplicit false
/-! sorted by a key whose calls may change what is tracked -/
namespace SrtK
open PySem PySem.W PySem.Calls PyProof.Rows
section
variable {prog : Program} {w : World} {A : Around} {E : Value → Shared → Prop} {s : Shared} {P : PySem.Fin → Shared → Prop} {b : Bool} {a kS : Addr} {vs : List Value} {kz : List PyData} {e1 : Nat}
theorem keyJ_rest {f : Value} {St : Nat → Shared → Prop} {Kr : Shared → Value → PyData → Prop} (hka : kS ≠ a) (h0 : St 0 s) (nk : s.heap.get? kS = some (seqObj "list" #[] 0)) (na : s.heap.get? a = some (seqObj "list" #[] e1))
    (hlen : kz.length = vs.length) (hZ : vs.length ≤ sizeLine) (hal : AllAlike kz) (hsk : Sortable kz) (hu : ∀ d, d ∈ kz → A.units + d.depth < cLine)
    (turn : ∀ (i : Nat) (v : Value) (k : PyData) (s' : Shared) (kA : Array Value) (e : Nat), vs[i]? = some v → kz[i]? = some k → St i s' → s'.heap.get? kS = some (seqObj "list" kA e) → s'.heap.get? a = some (seqObj "list" #[] e1) →
      wpAny (model prog w) A (call f [v]) (fun r s'' => s''.heap.get? kS = some (seqObj "list" kA e) ∧ s''.heap.get? a = some (seqObj "list" #[] e1) ∧ Kr s'' r k ∧ (∀ u d, Kr s' u d → Kr s'' u d) ∧ ∀ h', Heap.SameBut kS s''.heap h' → St (i + 1) { s'' with heap := h' }) (fun _ _ => False) s')
    (krK : ∀ (s' : Shared) (h' : Heap) (u : Value) (d : PyData), Kr s' u d → Heap.SameBut kS s'.heap h' → Kr { s' with heap := h' } u d)
    (krR : ∀ (s' : Shared) (u : Value) (d : PyData), Kr s' u d → ∃ as, Reads s'.heap u d as)
    (h : ∀ (s' : Shared) (h' : Heap) (tk : Nat) (out : List Value) (c : Nat), St vs.length s' → (∀ b o, b ≠ a → b ≠ kS → s'.heap.get? b = some o → h'.get? b = some o) → h'.get? a = some (seqObj "list" (List.toArray out) c) → KeyedOut b kz vs out → P (.done (.ret .none)) { s' with heap := h', toks := tk }) :
    wpAny (model prog w) A (ksk_rest a f b vs.toArray e1 (.ref kS)) P E s := by
  unfold ksk_rest
  refine wpAny_bind (wpAny_rule ?_)
  first
    | rw [List.forIn_toArray]
    | (rw [← Array.forIn_toList]; simp only [List.toList_toArray])
    | rw [← Array.forIn_toList]
  refine wpAny_bind (ksk_fold (fun i s' => ∃ kA e, St i s' ∧ s'.heap.get? kS = some (seqObj "list" kA e) ∧ s'.heap.get? a = some (seqObj "list" #[] e1) ∧ EachIs (fun v k => Kr s' v k) kA.toList (kz.take i)) vs 0 s
    ⟨#[], 0, h0, nk, na, by rw [List.take_zero]; exact EachIs.nil⟩ ?step ?done)
  case step =>
    rintro j x s' hx ⟨kA, e, st, nk', na', hk⟩
    simp only [Nat.zero_add] at hk st ⊢
    have hj : j < vs.length := (List.getElem?_eq_some_iff.mp hx).1
    obtain ⟨k, hkj⟩ : ∃ k, kz[j]? = some k := ⟨_, List.getElem?_eq_getElem (by omega)⟩
    have hz : kA.size ≤ vs.length := by
      have h1 := hk.length
      rw [Array.length_toList, List.length_take] at h1
      omega
    refine wpAny_bind (wpAny_attempt (wpAny_mono (turn j x k s' kA e hx hkj st nk' na') (fun v s'' he => ?_) fun _ _ hF => hF.elim))
    obtain ⟨nk2, na2, hv, keep, st2⟩ := he
    try dsimp only
    have s1 := Heap.SameBut.update s''.heap kS (Obj.mapSeq (·.push v))
    obtain ⟨c2, hc2⟩ : ∃ c2, (s''.heap.update kS (Obj.mapSeq (·.push v))).get? kS = some (seqObj "list" (kA.push v) c2) := ⟨_, get?_update_seq nk2 (·.push v)⟩
    have ek : kz.take (j + 1) = kz.take j ++ [k] := by rw [List.take_add_one, hkj]; simp
    have ea : (kA.push v).toList = kA.toList ++ [v] := by simp
    refine wpAny_bind (listUpdate_at nk2 rfl ?_ (Nat.le_trans hz hZ) (Nat.le_trans (Nat.le_of_eq (Array.size_push ..)) (Nat.succ_le_succ (Nat.le_trans hz hZ))))
    refine wpAny_pure ⟨rfl, kA.push v, c2, st2 _ s1, hc2, (s1.2 a hka.symm).trans na2, ?_⟩
    rw [ea, ek]
    refine each_snoc (R := fun (u : Value) (d : PyData) => Kr { s'' with heap := s''.heap.update kS (Obj.mapSeq (·.push v)) } u d) (krK _ _ _ _ hv s1) ?_
    exact hk.mono fun u d q => krK _ _ _ _ (keep u d q) s1
  case done =>
    rintro s' ⟨kA, e, st, nk', na', hk⟩
    simp only [Nat.zero_add] at st hk
    have hk' : EachIs (fun v k => ∃ as, Reads s'.heap v k as) kA.toList kz := by
      have e3 : kz.take vs.length = kz := List.take_of_length_le (by omega)
      rw [e3] at hk
      exact hk.mono fun v k q => krR _ _ _ q
    have hsz : kA.size = vs.length := by
      have h1 := hk'.length
      rw [Array.length_toList] at h1
      omega
    try dsimp only
    refine wpAny_bind (listItems_at nk' rfl ?_)
    let Hh : L2.Hp := fun b => if b = kS then some (.lst []) else none
    have hh : (L2.hidT s'.heap Hh).get? kS = none := by
      cases q : (L2.hidT s'.heap Hh).get? kS with
      | none => rfl
      | some o =>
        have := (L2.of_hidT q).2
        simp [Hh] at this
    have kp : KeepsBut a (L2.hidT s'.heap Hh) s'.heap := fun c o _ q => (L2.of_hidT q).1
    refine keyH_end (κ := dataKind s'.heap kz) (h₁ := L2.hidT s'.heap Hh) kp hh nk' na' hka (SortsAt.data (s := s') hk' hal hsk hu) hsz hZ fun h3 tk3 c k3 n3 => ?_
    exact h s' h3 tk3 _ c st (fun c o h1 h2 q => k3 c o h1 (L2.hidT_get q (by simp [Hh, h2]))) n3 ⟨s'.heap, kA.toList, hal, rfl, hk'⟩
theorem keyJ_tree {f : Value} {n : Nat} {St : Addr → Nat → Nat → Shared → Prop} {Kr : Addr → Shared → Value → PyData → Prop} (ho : s.heap.get? a = some (seqObj "list" vs.toArray n))
    (hlen : kz.length = vs.length) (hZ : vs.length ≤ sizeLine) (hal : AllAlike kz) (hsk : Sortable kz) (hu : ∀ d, d ∈ kz → A.units + d.depth < cLine)
    (begin_ : ∀ (h' : Heap) (e1 : Nat) (kS : Addr), s.heap.objs.size ≤ kS → (∀ b o, b ≠ a → s.heap.get? b = some o → h'.get? b = some o) → h'.get? kS = some (seqObj "list" #[] 0) → h'.get? a = some (seqObj "list" #[] e1) → St kS e1 0 { s with heap := h' })
    (turn : ∀ (kS : Addr) (e1 : Nat), s.heap.objs.size ≤ kS → ∀ (i : Nat) (v : Value) (k : PyData) (s' : Shared) (kA : Array Value) (e : Nat), vs[i]? = some v → kz[i]? = some k → St kS e1 i s' → s'.heap.get? kS = some (seqObj "list" kA e) → s'.heap.get? a = some (seqObj "list" #[] e1) →
      wpAny (model prog w) A (call f [v]) (fun r s'' => s''.heap.get? kS = some (seqObj "list" kA e) ∧ s''.heap.get? a = some (seqObj "list" #[] e1) ∧ Kr kS s'' r k ∧ (∀ u d, Kr kS s' u d → Kr kS s'' u d) ∧ ∀ h', Heap.SameBut kS s''.heap h' → St kS e1 (i + 1) { s'' with heap := h' }) (fun _ _ => False) s')
    (krK : ∀ (kS : Addr) (s' : Shared) (h' : Heap) (u : Value) (d : PyData), s.heap.objs.size ≤ kS → Kr kS s' u d → Heap.SameBut kS s'.heap h' → Kr kS { s' with heap := h' } u d)
    (krR : ∀ (kS : Addr) (s' : Shared) (u : Value) (d : PyData), Kr kS s' u d → ∃ as, Reads s'.heap u d as)
    (h : ∀ (kS : Addr) (e1 : Nat) (s' : Shared) (h' : Heap) (tk : Nat) (out : List Value) (c : Nat), s.heap.objs.size ≤ kS → St kS e1 vs.length s' → (∀ b o, b ≠ a → b ≠ kS → s'.heap.get? b = some o → h'.get? b = some o) → h'.get? a = some (seqObj "list" (List.toArray out) c) → KeyedOut b kz vs out → P (.done (.ret .none)) { s' with heap := h', toks := tk }) :
    wpAny (model prog w) A (ksk_tree a f b) P E s := by
  have ha : a < s.heap.objs.size := Heap.lt_size ho
  obtain ⟨e1, ho1⟩ : ∃ e1, (s.heap.update a (Obj.mapSeq fun _ => (#[] : Array Value))).get? a = some (seqObj "list" #[] e1) := ⟨_, get?_update_seq ho fun _ => #[]⟩
  have hkS : ((s.heap.update a (Obj.mapSeq fun _ => (#[] : Array Value))).push (seqObj "tuple" vs.toArray 0)).objs.size = s.heap.objs.size + 1 := by rw [size_push', Heap.size_update]
  unfold ksk_tree
  refine wpAny_bind (listItems_at ho rfl ?_)
  refine wpAny_bind (listUpdate_at ho rfl ?_ (by rw [List.size_toArray]; exact hZ) (Nat.zero_le _))
  refine wpAny_bind (seqEpoch_at ho1 rfl ?_)
  refine wpAny_bind (wpAny_newTuple ?_ (by show vs.length ≤ _; exact hZ))
  refine wpAny_bind (wpAny_newList ?_ (Nat.zero_le _))
  refine wpAny_holding ?_
  have kp : KeepsBut a s.heap (sortingHeap s.heap a vs) := fun b o hb q => sortingHeap_old hb q
  have le : s.heap.objs.size ≤ ((s.heap.update a (Obj.mapSeq fun _ => (#[] : Array Value))).push (seqObj "tuple" vs.toArray 0)).objs.size := by rw [hkS]; exact Nat.le_succ _
  have nk : (((s.heap.update a (Obj.mapSeq fun _ => (#[] : Array Value))).push (seqObj "tuple" vs.toArray 0)).push (seqObj "list" #[] 0)).get? ((s.heap.update a (Obj.mapSeq fun _ => (#[] : Array Value))).push (seqObj "tuple" vs.toArray 0)).objs.size = some (seqObj "list" #[] 0) := Heap.get?_push_size _ rfl
  have na := Heap.get?_push_of_some (seqObj "list" #[] 0) (Heap.get?_push_of_some (seqObj "tuple" vs.toArray 0) ho1)
  refine keyJ_rest (kz := kz) (s := { s with heap := ((s.heap.update a (Obj.mapSeq fun _ => (#[] : Array Value))).push (seqObj "tuple" vs.toArray 0)).push (seqObj "list" #[] 0) }) (kS := ((s.heap.update a (Obj.mapSeq fun _ => (#[] : Array Value))).push (seqObj "tuple" vs.toArray 0)).objs.size)
    (St := St _ e1) (Kr := Kr _) (by rw [hkS]; exact Nat.ne_of_gt (Nat.lt_succ_of_lt ha)) (begin_ _ e1 _ le (fun b o hb q => kp b o hb q) nk na) nk na hlen hZ hal hsk hu (turn _ e1 le) (fun s' h' u d => krK _ s' h' u d le) (krR _) fun s' h' tk out c => h _ e1 s' h' tk out c le
end
end SrtK

set_option Elab.async false
set_option linter.all false
set_option maxRecDepth 100000
set_option maxHeartbeats 4000000
set_option autoImplicit false
/-! a lambda with one parameter, called while the frame that made it stands -/
namespace LamP
open PySem PySem.Spec PyProof.Rows L2 LamX
/-- one parameter, no other name of its own: captured ones and globals -/
structure LamQ (sc scope : Scope) (p : Str) : Prop where
  kind : scope.kind = .function
  co : scope.isCoroutine = false
  gen : scope.isGenerator = false
  par : scope.names.lookup p = some .local
  own : ∀ y ∈ scope.names, y.2 ≠ .cell ∧ (y.2 = .local → y.1 = p)
  free : ∀ y ∈ scope.names, y.2 = .free → sc.names.lookup y.1 = some .cell ∨ sc.names.lookup y.1 = some .free
def lamQB (sc scope : Scope) (p : Str) : Bool :=
  decide (scope.kind = .function) && !scope.isCoroutine && !scope.isGenerator && decide (scope.names.lookup p = some .local) && scope.names.all fun y => !decide (y.2 = .cell) && (!decide (y.2 = .local) || decide (y.1 = p)) && (!decide (y.2 = .free) || decide (sc.names.lookup y.1 = some .cell) || decide (sc.names.lookup y.1 = some .free))
theorem lamQ_by {sc scope : Scope} {p : Str} (h : lamQB sc scope p = true) : LamQ sc scope p := by
  unfold lamQB at h
  simp only [Bool.and_eq_true, Bool.or_eq_true, Bool.not_eq_true', decide_eq_true_eq, decide_eq_false_iff_not, List.all_eq_true] at h
  obtain ⟨⟨⟨⟨h1, h2⟩, h3⟩, h5⟩, h4⟩ := h
  refine ⟨h1, h2, h3, h5, fun y hy => ⟨(h4 y hy).1.1, fun e => ?_⟩, fun y hy e => ?_⟩
  · rcases (h4 y hy).1.2 with z | z
    · exact absurd e z
    · exact z
  · rcases (h4 y hy).2 with (z | z) | z
    · exact absurd e z
    · exact .inl z
    · exact .inr z
theorem LamQ.has {X : Cx} {scope : Scope} {p : Str} (L : LamQ X.env.scope scope p) (ok : X.Ok) : ∀ y ∈ scope.names, y.2 = .free → ∃ c, X.env.cells.lookup y.1 = some c := fun y hy e => by
  rcases L.free y hy e with k | k
  · exact ok.has _ (.inl k)
  · exact ok.has _ (.inr k)
/-- the names that the body knows, and what they hold -/
def lamV (N : List Str) (p : Str) (σ : L2.St) (v : V) : L2.St := (N.zip σ).map (fun q => if q.1 = p then none else q.2) ++ [some v]
def lamCxP (X : Cx) (A : Around) (outer : List Env) (s : Shared) (H : Hp) (E : XK) (scope : Scope) (f c' : Addr) (p : Str) : Cx := { lamCx X A outer s H E scope f c' with N := X.N ++ [p] }
section
variable {X : Cx} {pins : List (Addr × Obj)} {σ : L2.St} {H : Hp} {s : Shared}
theorem lam_startP {A : Around} {outer : List Env} {E : XK} {scope : Scope} {f c' : Addr} {h₁ : Heap} {tk : Nat} {p : Str} {v : V} {u : Value} (I : Inv X pins σ H s) (L : LamQ X.env.scope scope p) (e0 : Env0 X.prog X.w X.K X.mg X.base A outer s H) (hd : A.handled = none) (rv : RelV v u)
    (hns : h₁.Ns s.heap.objs.size fun y => ([(p, u)] : List (Str × Value)).reverse.lookup y) (kp : ∀ b o, s.heap.get? b = some o → h₁.get? b = some o) :
    Inv (lamCxP X A outer s H E scope f c' p) [] (lamV X.N p σ v) H { s with heap := h₁, toks := tk } := by
  have hfree := L.has I.ok
  have cm : ∀ {y c}, (cloFrom X.env.cells scope.names []).lookup y = some c → X.env.cells.lookup y = some c := fun {y c} e => by
    rcases cloFrom_mem (PySem.mem_of_lookup e) with hm | ⟨h1, h2⟩
    · cases hm
    · obtain ⟨c1, hc⟩ := hfree _ h1 rfl
      have hc : X.env.cells.lookup y = some c1 := hc
      have e2 : c = c1 := by
        rw [h2, hc] <;> rfl
      rw [e2]
      exact hc
  have look : ∀ {y}, scope.names.lookup y = some .free → ∃ c, (cloFrom X.env.cells scope.names []).lookup y = some c := fun {y} hl => by
    have hy : (y, NameKind.free) ∈ scope.names := PySem.mem_of_lookup hl
    exact mem_lookup (cloFrom_has (cells := X.env.cells) (acc := []) hy)
  have cellK : ∀ {c : Addr} {v : Option Value}, s.heap.IsCell c v → h₁.IsCell c v := fun {c v} ⟨o, ho, hd⟩ => ⟨o, kp _ _ ho, hd⟩
  have noA : ∀ b : Addr, b ∉ (lamCxP X A outer s H E scope f c' p).ex := fun b z => absurd (show b ∈ ([] : List Addr) from z) (by simp)
  have zl : (X.N.zip σ).length = X.N.length := by rw [List.length_zip, I.len, Nat.min_self]
  refine ⟨⟨e0.mod, L.kind, rfl, rfl, Nat.le_refl _, fun y z c e1 e2 => I.ok.inj y z c (cm e1) (cm e2), fun y hy => ?_, fun y c z _ => ?_, fun _ => hd, Around.frames_deeper e0.frames, .inr ⟨rfl, rfl⟩, fun b z => absurd z (noA b), e0.bs, e0.bsz, fun b _ _ => noA b,
      fun b z => absurd z (noA b), e0.funs, e0.frf⟩,
    rfl, e0.bare, Un.kept kp, ⟨_, hns, fun i y v' e1 e2 e3 => ?_⟩, fun y c e => ?_, e0.hok.fresh (Nat.le_refl _), fun y c e => ?_, fun q hq => absurd (show q ∈ ([] : List (Addr × Obj)) ++ [] from hq) (by simp), e0.hok.kept kp, ?_⟩
  · have hy : scope.names.lookup y = some .cell ∨ scope.names.lookup y = some .free := hy
    rcases hy with hy | hy
    · exact absurd rfl (L.own _ (PySem.mem_of_lookup hy)).1
    · exact look hy
  · have z : false = true := z
    cases z
  · have e1 : (X.N ++ [p])[i]? = some y := e1
    have e2 : ((X.N.zip σ).map (fun q => if q.1 = p then none else q.2) ++ [some v])[i]? = some (some v') := e2
    have e3 : Vis scope y := e3
    by_cases il : i < X.N.length
    · rw [List.getElem?_append_left il] at e1
      rw [List.getElem?_append_left (by rw [List.length_map, zl]; exact il), List.getElem?_map] at e2
      obtain ⟨q, hq, eq⟩ := Option.map_eq_some_iff.mp e2
      obtain ⟨q1, q2⟩ := List.getElem?_zip_eq_some.mp hq
      rw [e1] at q1
      have qy : y = q.1 := Option.some.inj q1
      have yp : ¬ q.1 = p := fun z => by rw [if_pos z] at eq; cases eq
      rw [if_neg yp] at eq
      rw [eq] at q2
      rw [← qy] at yp
      rcases e3 with k | k | k
      · exact absurd ((L.own _ (PySem.mem_of_lookup k)).2 rfl) yp
      · exact absurd rfl (L.own _ (PySem.mem_of_lookup k)).1
      · obtain ⟨m, hn, hl⟩ := I.loc
        have hvis : Vis X.env.scope y := (L.free _ (PySem.mem_of_lookup k) rfl).elim (fun k => .inr (.inl k)) (fun k => .inr (.inr k))
        obtain ⟨w', r, q⟩ := hl i y v' e1 q2 hvis
        obtain ⟨c2, h2⟩ := look k
        refine ⟨w', r, .inr ⟨.inr k, c2, h2, ?_⟩⟩
        have c1 := cm h2
        rcases q with ⟨k', _⟩ | ⟨_, c3, e', z⟩
        · have k' : X.env.scope.names.lookup y = some .local := k'
          rcases L.free _ (PySem.mem_of_lookup k) rfl with k2 | k2 <;> rw [show X.env.scope.names.lookup y = _ from k2] at k' <;> cases k'
        · rw [c1] at e'
          cases e'
          exact cellK z
    · have il2 : i = X.N.length := by
        have := (List.getElem?_eq_some_iff.mp e1).1
        rw [List.length_append, List.length_singleton] at this
        omega
      subst il2
      rw [List.getElem?_append_right (Nat.le_refl _), Nat.sub_self] at e1
      have ey : p = y := by simpa using e1
      subst ey
      rw [List.getElem?_append_right (by rw [List.length_map, zl]; exact Nat.le_refl _), List.length_map, zl, Nat.sub_self] at e2
      have ev : v = v' := by simpa using e2
      subst ev
      exact ⟨u, rv, .inl ⟨L.par, by simp⟩⟩
  · obtain ⟨w', z⟩ := I.cell y c (cm e)
    exact ⟨w', cellK z⟩
  · exact I.freeC y c (cm e)
  · show ((X.N.zip σ).map (fun q => if q.1 = p then none else q.2) ++ [some v]).length = (X.N ++ [p]).length
    rw [List.length_append, List.length_append, List.length_map, zl]
    rfl
/-- f(v), f a lambda that this frame made -/
theorem lam_call {A : Around} {f c' : Addr} {pm ctv : Value} {params : Arguments} {body : Expr} {scope : Scope} {k : Nat} {p : Str} {E : XK} {tb : TE} {v : V} {u : Value} {Q : VK} {F : Value → Shared → Prop}
    (I : Inv X pins σ H s) (L : LamQ X.env.scope scope p) (e0 : Env0 X.prog X.w X.K X.mg X.base A X.stack s H) (hr : Room (k + 1) A) (hf : s.heap.get? f = some (PySem.W.kla_obj "<lambda>" (X.env.qual ++ "<lambda>") params body scope (cloFrom X.env.cells scope.names []) pm c' ctv))
    (hc : H c' = some (CodeO c' (X.env.qual ++ "<lambda>"))) (hbind : bindArgs (PySem.W.kla_fn "<lambda>" (X.env.qual ++ "<lambda>") params body scope (cloFrom X.env.cells scope.names []) pm (.ref c') ctv) ⟨[u], []⟩ = pure [(p, u)]) (rv : RelV v u)
    (hbody : PE (lamCxP X A X.stack s H E scope f c' p) body tb) (q : tb (lamV X.N p σ v) H Q) (hx : ∀ e s', L2.CX X.prog X.w X.stack H s E e s' → F e s') :
    wpAny (model X.prog X.w) A (call (.ref f) [u]) (EP X pins σ Q) F s := by
  obtain ⟨⟨oc, vs, t, hoc, hdc, hvc⟩, _, _⟩ := I.hok c' _ hc
  have rc : codeAny (model X.prog X.w) A (.call (.ref f) ⟨[u], []⟩) (CR (L2.CX X.prog X.w) X.stack X.prog X.w H s Q E) s := by
    refine PySem.W.kla_callFunE hr.depth hf rfl L.co L.gen rfl ⟨c', oc, vs, t, rfl, hoc, hdc, hvc⟩ ?_
    rw [hbind]
    refine wpAny_pure (wpAny_newFunctionEnv (fun y hy => (L.own y hy).1) (fun y hy => ?_) (fun h₁ hns hsb => ⟨I.nolimit.fresh _ hsb, ?_⟩) L.kind)
    · have e : y = (p, u) := List.mem_singleton.mp hy
      rw [e]
      exact L.par
    show codeAny _ _ (.expr body (lamEnv X scope s.heap.objs.size f c')) _ _
    have kp : ∀ b o, s.heap.get? b = some o → h₁.get? b = some o := fun b o e => hsb.extBut b o (Nat.ne_of_lt (Heap.lt_size e)) (Heap.get?_push_of_some _ e)
    have J : Inv (lamCxP X A X.stack s H E scope f c' p) [] (lamV X.N p σ v) H { s with heap := h₁, toks := s.toks + ([(p, u)] : List (Str × Value)).length } := lam_startP I L e0 hr.hd rv hns kp
    refine PySem.W.kla_codeExpr (wpAny_mono (hbody.run [] _ _ H Q J q) (fun v s' hq => ?_) fun e s' hq => hq)
    obtain ⟨w', H', J', rv, q⟩ := hq
    exact ⟨w', H', J'.os, J'.bare, J'.base, J'.hok, rv, q⟩
  refine wpAny_call (codeAny_mono rc fun r s' hq => ?_)
  cases r with
  | error e => exact hx e s' hq
  | ok fl =>
    cases fl with
    | ret u => exact I.after hq
    | next => exact False.elim hq
    | brk => exact False.elim hq
    | cont => exact False.elim hq
end
end LamP

set_option Elab.async false
set_option linter.all false
set_option maxRecDepth 100000
set_option maxHeartbeats 4000000
set_option autoImplicit false
/-! sorted(xs, key=lambda p: ..), whole keys -/
namespace LamP
open PySem PySem.Spec PySem.W PyProof.Rows L2 LamX
/-- xs by the keys ks, equal ones as they stood -/
def byKeys (xs : List V) (ks : List Int) : List V := ((xs.zip ks).mergeSort fun u v => decide (u.2 ≤ v.2)).map (·.1)
/-- all that was known is known still -/
abbrev Kp (H H' : Hp) : Prop := ∀ b o, H b = some o → H' b = some o
def tSortLam (K : PySem.W.Frag) (T : List (Addr × Str)) (N : List Str) (p : Str) (te tb : TE) : TE := fun σ H Q => te σ H fun x H1 => ∃ a, x = .ref a ∧ Tabs T H1 ∧ ∀ H2, ExtN H1 H2 → Tabs T H2 → ∃ (xs : List V) (ks : List Int), SqL K H2 a xs ∧ ks.length = xs.length ∧
  (∀ (i : Nat) (x : V) (k : Int) (H : Hp), xs[i]? = some x → ks[i]? = some k → Kp H2 H → tb (lamV N p σ x) H fun v H' => v = .int k ∧ Kp H H') ∧ ∀ q H3, Kp H2 H3 → H3 q = none → Q (.ref q) (upd H3 q (.lst (byKeys xs ks)))
theorem each_vals {out : List Value} {bs : List (V × Int)} (h : EachIs (fun (v : Value) (b : V × Int) => RelV b.1 v) out bs) : Vals (bs.map (·.1)) out := by
  induction h with
  | nil => exact .nil
  | cons h _ ih => exact .cons h ih
theorem vals_each {xs : List V} {us : List Value} (r : Vals xs us) : ∀ {ks : List Int}, ks.length = xs.length → EachIs (fun (v : Value) (b : V × Int) => RelV b.1 v) us (xs.zip ks) := by
  induction r with
  | nil => intro ks _; rw [List.zip_nil_left]; exact .nil
  | cons r _ ih =>
    intro ks h
    cases ks with
    | nil => simp at h
    | cons k ks =>
      rw [List.zip_cons_cons]
      exact .cons r (ih (by simpa using h))
section
variable {X : Cx}
theorem pe_sortLam {T : List (Addr × Str)} {c P : Addr} {k : Nat} {e : Expr} {te tb : TE} {params : Arguments} {body : Expr} {scope : Scope} {p : Str} {np lpos kpos pos : Pos} (hg : Gl X "sorted") (hm : X.mg "sorted" = none) (he : PE X e te)
    (TB : TabB X.base X.mg c P) (hcode : X.env.code = .ref c) (hmT : (P, X.env.qual ++ "<lambda>") ∈ T) (hu : ∀ p ∈ T, p.1 = P → p.2 = X.env.qual ++ "<lambda>") (hr : Room (k + 3) X.A) (L : LamQ X.env.scope scope p) (hdef : defaultsOf params X.env = ([], []))
    (hbind : ∀ (q : Str) (cl : List (Str × Addr)) (pm cv ctv u : Value), bindArgs (PySem.W.kla_fn "<lambda>" q params body scope cl pm cv ctv) ⟨[u], []⟩ = pure [(p, u)])
    (hbody : ∀ (A : Around) (outer : List Env) (s : Shared) (H : Hp) (f c' : Addr), Room k (A.deeper (lamEnv X scope s.heap.objs.size f c')) → PE (lamCxP X A outer s H (fun _ _ _ => False) scope f c' p) body tb)
    (he1 : backTo pos (starEach [e] X.env) = (false, eval e X.env) :: backTo pos (starEach [] X.env) := by rfl) (hpl : (backTo pos (starEach [e] X.env)).any (·.1) = false := by rfl) (hse : starEach [e] X.env = (false, eval e X.env) :: starEach [] X.env := by rfl) :
    PE X (.Call (.Name "sorted" np) [e] [⟨some "key", .Lambda params body scope lpos, kpos⟩] pos) (tSortLam X.K T X.N p te tb) := by
  refine ⟨fun pins s σ H Q I h => ?_⟩
  refine wpAny_Call_Name_kw (ld_blt I hg hm boot_sorted ?_)
  refine PyProof.Rows.callWith_kw ?main he1 hpl (by rfl) (by rfl)
  rw [he1]
  refine Calls.spliced_cons (thn (he.run pins s σ H _ I h) fun u s1 ⟨x, H1, I1, r1, a, ex, hT, q1⟩ => Calls.spliced_nil ?_)
  subst ex
  obtain rfl : u = Value.ref a := r1
  show wpAny _ _ (evalAll ((do let v ← eval (.Lambda params body scope lpos) X.env; standAt pos; pure v) :: [])) _ _ s1
  refine wpAny_evalAll_cons (wpAny_bind (lam_make2 I1 TB hcode hmT hu hT hdef (L.has I1.ok) fun f c' pm ctv H2 s2 I2 eN T2 hf hfn hfr hco => wpAny_bind (wpAny_standAt (wpAny_pure (wpAny_evalAll_nil ?_)))))
  obtain ⟨xs, ks, hS, hkl, key, q⟩ := q1 H2 eN T2
  show wpAny _ _ (call (.builtin "sorted") [.ref a] [(Str.ofString "key", .ref f)]) _ _ s2
  obtain ⟨its, rv, hl, hz⟩ := I2.list hS
  have il := rv.length
  -- the lambda's own object stands
  have fL : f ≠ X.env.locals := fun z => by
    obtain ⟨m, ⟨o, es, ep, ho, hd, _⟩, _⟩ := I2.loc
    rw [z, ho] at hf
    cases hf
    cases hd
  have fF : f ∉ X.fs := fun z => hfr (by
    rcases I2.ok.stk with e | ⟨e, _⟩
    · rw [e]; exact z
    · rw [e]
      have z : f ∈ frs X.outer := z
      unfold frs at z ⊢
      obtain ⟨y, hy, ey⟩ := List.mem_filterMap.mp z
      exact List.mem_filterMap.mpr ⟨y, List.mem_cons_of_mem _ hy, ey⟩)
  generalize hfo : PySem.W.kla_obj "<lambda>" (X.env.qual ++ "<lambda>") params body scope (cloFrom X.env.cells scope.names []) pm c' ctv = fo at hf
  have foC : ∀ v, fo.data ≠ .cell v := fun v z => by rw [← hfo] at z; cases z
  have Ip : Inv X ((f, fo) :: pins) σ H2 s2 := I2.pins_of fun p hp => by
    rcases List.mem_cons.mp hp with e | hp
    · subst e
      exact ⟨hf, hfn, fL, fF, foC⟩
    · exact I2.pin p (List.mem_append_right _ hp)
  have hrr : Room (k + 1) X.A.in1.in1 := hr.in1.in1
  have un := hrr.units
  have cz : s2.heap.objs.size ≤ (copyHeap s2.heap its).objs.size := Nat.le_of_lt (Nat.lt_of_succ_lt (Heap.lt_size (copyHeap_at s2.heap its)))
  refine sorted_of_sort hl.isList (by rw [← il]; exact hz) (ksk_s1 _ _) (fun _ => ksk_l1 _ _) fun E' => ?_
  rw [ksk_t1]
  refine SrtK.keyJ_tree (kz := ks.map .int) (b := false) (a := s2.heap.objs.size + 1) (s := { s2 with heap := copyHeap s2.heap its }) (A := X.A.in1.in1)
    (St := fun kS e1 i s' => ∃ H', Inv X ((f, fo) :: pins) σ H' s' ∧ Kp H2 H' ∧ FpOk X ((f, fo) :: pins) H' kS ∧ FpOk X ((f, fo) :: pins) H' (s2.heap.objs.size + 1))
    (Kr := fun _ _ v d => ∃ n t, v = .int n t ∧ d = .int n) (copyHeap_at _ _) (by rw [List.length_map, hkl, il]) (by rw [← il]; exact hz) (fun d hd d' hd' => ?_) (.inr fun d hd => ?_) (fun d hd => ?_) (fun h' e1 kS le keep nk na => ?_) (fun kS e1 le i v d s' kA e0 hv hd st nk na => ?_) (fun _ _ _ _ _ _ z _ => z) (fun _ s' v d z => ?_) fun kS e1 s' h' tk out c0 le st keep na ko => ?_
  · obtain ⟨n, _, rfl⟩ := List.mem_map.mp hd
    obtain ⟨m, _, rfl⟩ := List.mem_map.mp hd'
    rfl
  · obtain ⟨n, _, rfl⟩ := List.mem_map.mp hd
    exact ⟨fun z => (by cases z), fun xs z => (by cases z)⟩
  · obtain ⟨n, _, rfl⟩ := List.mem_map.mp hd
    have : (PyData.int n).depth = 0 := by simp [PyData.depth]
    rw [this]
    omega
  · have J : Inv X ((f, fo) :: pins) σ H2 { s2 with heap := h' } := Ip.kept (t' := s2.toks) fun b o e => keep b o (Nat.ne_of_lt (Nat.lt_succ_of_lt (Heap.lt_size e))) (copyHeap_old e)
    exact ⟨H2, J, fun _ _ e => e, Ip.fpOk (Nat.le_trans cz le) (Ip.hok.fresh (Nat.le_trans cz le)), Ip.fpOk (Nat.le_succ _) (Ip.hok.fresh (Nat.le_succ _))⟩
  · obtain ⟨H', J, kp, fk, fa⟩ := st
    rw [List.getElem?_map] at hd
    obtain ⟨k0, hk0, rfl⟩ := Option.map_eq_some_iff.mp hd
    have ix : i < xs.length := by rw [il]; exact (List.getElem?_eq_some_iff.mp hv).1
    have hx : xs[i]? = some xs[i] := List.getElem?_eq_getElem ix
    obtain ⟨v', hv', ru⟩ := rv.get hx
    rw [hv] at hv'
    cases hv'
    have J2 : Inv X ((kS, seqObj "list" kA e0) :: (s2.heap.objs.size + 1, seqObj "list" #[] e1) :: (f, fo) :: pins) σ H' s' := J.pins_of fun p hp => by
      rcases List.mem_cons.mp hp with e | hp
      · subst e
        exact ⟨nk, fk.1, fk.2.1, fk.2.2.1, fun v z => by cases z⟩
      · rcases List.mem_cons.mp hp with e | hp
        · subst e
          exact ⟨na, fa.1, fa.2.1, fa.2.2.1, fun v z => by cases z⟩
        · exact J.pin p (List.mem_append_right _ hp)
    have rawf : s'.heap.get? f = some fo := (J.pin (f, fo) (List.mem_append_right _ (List.mem_cons_self ..))).1
    rw [← hfo] at rawf
    refine wpAny_mono (lam_call (F := fun _ _ => False) J2 L J2.env0.in1.in1 hrr rawf (kp _ _ hco) (hbind _ _ _ _ _ _) ru (hbody _ _ _ _ _ _ (hrr.deeper _)) (key i _ k0 H' hx hk0 kp) fun e s'' z => ?_) (fun u s'' hq => ?_) fun _ _ z => z
    · obtain ⟨_, _, _, _, _, _, _, _, _, _, _, _, z⟩ := z
      exact z
    · obtain ⟨v2, H3, J3, r3, e3, kp3⟩ := hq
      subst e3
      obtain ⟨t, rfl⟩ := r3
      have p1 := J3.pin (kS, seqObj "list" kA e0) (List.mem_append_right _ (List.mem_cons_self ..))
      have p2 := J3.pin (s2.heap.objs.size + 1, seqObj "list" #[] e1) (List.mem_append_right _ (List.mem_cons_of_mem _ (List.mem_cons_self ..)))
      refine ⟨p1.1, p2.1, ⟨k0, t, rfl, rfl⟩, fun _ _ z => z, fun h' sb => ⟨H3, ?_, fun b o e => kp3 _ _ (kp _ _ e), ⟨p1.2.1, fk.2⟩, ⟨p2.2.1, fa.2⟩⟩⟩
      have J4 : Inv X ((f, fo) :: pins) σ H3 s'' := J3.pins_of fun p hp => J3.pin p (List.mem_append_right _ (List.mem_cons_of_mem _ (List.mem_cons_of_mem _ hp)))
      exact J4.turnedL (t' := s''.toks) (ch := [kS]) (fun c o hc q => (sb.2 c fun z => hc (by rw [z]; exact List.mem_cons_self ..)).trans q) fun b hb => by
        rw [List.mem_singleton.mp hb]
        exact ⟨p1.2.1, fk.2⟩
  · obtain ⟨n, t, rfl, rfl⟩ := z
    exact ⟨[], .int n t⟩
  · obtain ⟨H', J, kp, fk, fa⟩ := st
    have J1 : Inv X ((f, fo) :: pins) σ H' { s' with heap := h', toks := tk } := J.turnedL (t' := tk) (ch := [kS, s2.heap.objs.size + 1]) (fun c o hc q => keep c o (fun z => hc (by rw [z]; simp)) (fun z => hc (by rw [z]; simp)) q) fun b hb => by
      rcases List.mem_cons.mp hb with e | hb
      · rw [e]; exact fk
      · rw [List.mem_singleton.mp hb]; exact fa
    have J5 : Inv X pins σ H' { s' with heap := h', toks := tk } := J1.pins_of fun p hp => J1.pin p (List.mem_append_right _ (List.mem_cons_of_mem _ hp))
    have fa5 : FpOk X pins H' (s2.heap.objs.size + 1) := by
      obtain ⟨f1, f2, f3, f4, f5, f6⟩ := fa
      refine ⟨f1, f2, f3, f4, f5, fun p hp => f6 p ?_⟩
      rcases List.mem_append.mp hp with z | z
      · exact List.mem_append_left _ z
      · exact List.mem_append_right _ (List.mem_cons_of_mem _ z)
    have em : (xs.zip ks).map (fun b => PyData.int b.2) = ks.map .int := by
      have : (xs.zip ks).map Prod.snd = ks := List.map_snd_zip (by omega)
      rw [show (fun b : V × Int => PyData.int b.2) = PyData.int ∘ Prod.snd from rfl, ← List.map_map, this]
    rw [← em] at ko
    have eo := keyedOut_each (fun b : V × Int => PyData.int b.2) ko (vals_each rv hkl)
    rw [dataLe_int] at eo
    have ev : Vals (byKeys xs ks) out := each_vals eo
    have lb : (byKeys xs ks).length = xs.length := by
      unfold byKeys
      rw [List.length_map, List.length_mergeSort, List.length_zip, hkl, Nat.min_self]
    refine ⟨rfl, .ref (s2.heap.objs.size + 1), upd H' (s2.heap.objs.size + 1) (.lst (byKeys xs ks)), ?_, rfl, q _ H' kp fa.1⟩
    exact J5.take (h' := h') (t' := tk) (fun b ob _ e => e) fa5 ⟨by rw [lb]; exact hz, out, c0, ev, na⟩
end
end LamP

set_option Elab.async false
set_option linter.all false
set_option maxRecDepth 100000
set_option maxHeartbeats 4000000
set_option autoImplicit false
/-! the end of a law where one def makes a lambda -/
namespace LamP
open PySem PySem.Spec PyProof.Rows L2 LamX
/-- where the code object and the table of the def x stand, the table empty -/
def TabOf (K : PySem.W.Frag) (x : Str) (h : Heap) : Prop := ∀ c P : Addr, PySem.W.tabIn K x = some (c, P) → PySem.W.CodeHd h c P ∧ h.get? P = some { cls := .none, data := .fields #[] }
theorem walk_lam {l : PySem.W.OpenLaw} {n k : Nat} {q : Program} {loose : List Str} {XP : (Str → Option Value) → Heap → Prop} {YP : World → Heap → Prop} {d dL : DefRec} {K : Params → PySem.W.Frag} {CX : World → CXT} {x xL : Str}
    (hn : l.most = some n) (hn2 : n ≤ sizeLine) (hdf : d.params.defaults = []) (hr : Room k callerA) (hrec : (recsOf q).find? (fun e => e.name == xL) = some dL) (hY : ∀ (w : World) (h : Heap), YP w h → (K w.params).In h)
    (F : ∀ (w : World) (mg : Str → Option Value) (fa : Addr) (h : Heap), YP w h → (K w.params).In h → h.Ns mainGlobals mg → mg d.name = some (.ref fa) → TabOf (K w.params) xL h → LawAtS l w (K w.params) (CX w) k n x mg fa h)
    (hCX : ∀ (w : World) (H : Hp) (s : Shared) (e : Value) (s' : Shared), CX w [] H s (fun _ _ _ => False) e s' → False) :
    PySem.W.WalkO q loose XP YP l.row.toRowW d [] (fun f vs => PySem.call f vs) := by
  refine Att.attach_callB hn hdf fun w s₀ s₁ mg mb fa o pm cd doc a vs ns G Y ho hd hcd hmg hobj hints hlen hbits hg => ?_
  have KX := hY w _ Y
  obtain ⟨fd, cs, sp, hT, nT, C, hb, hsp, hF⟩ := F w mg fa _ Y KX G.T.g hmg fun c P ht => PySem.W.tab_of G.T KX hrec ht
  exact law_callTs KX G.T.g G.T.b G.T.builtins G.T.nolimit hg hT nT C G.T.bmain hobj hints (Nat.le_trans hlen hn2) hr hF hb (fun H hH hS => hsp H a ns hlen hbits hH hS) fun H e s' => hCX w H s₁ e s'
end LamP
namespace LamP
open PySem PySem.Spec PyProof.Rows L2 LamX
/-- the def at f has its code object at c -/
def CodeIs (K : PySem.W.Frag) (f c : Addr) : Prop := ∀ o fd, K.lookup f = some o → o.data = .func fd → fd.code = .ref c
theorem code_is {K : PySem.W.Frag} {x : Str} {f c P : Addr} (ha : PySem.W.nsIn K mainGlobals x = some (some (.ref f))) (ht : PySem.W.tabIn K x = some (c, P)) : CodeIs K f c := by
  intro o fd ho hd
  unfold PySem.W.tabIn at ht
  rw [ha] at ht
  simp only [ho] at ht
  obtain ⟨oc, od, dt, osl⟩ := o
  simp only at hd
  subst hd
  simp only at ht
  split at ht
  · rename_i c2 hc2
    split at ht
    · split at ht
      · injection ht with h
        injection h with h1 h2
        rw [← h1]
        exact hc2
      · cases ht
    · cases ht
  · cases ht
section
variable {P : Program} {w : World} {K : PySem.W.Frag} {mg : Str → Option Value} {base : Heap}
theorem okC {x qual : Str} {st : Stmt} {f c : Addr} {fd : FuncData} {N ps : List Str} {k : Nat} {sp : Sp} (F : Fun K x qual st f fd) (hc : CodeIs K f c) (S : FnScope N ps (defScope st)) (len : ∀ vs H Q E, sp vs H Q E → vs.length = ps.length)
    (hbody : ∀ (A : Around) (outer : List Env) (s : Shared) (H : Hp) (vs : List V) (Q : VK) (E : XK), Room k (A.deeper (envOfC qual (defScope st) s.heap.objs.size f (.ref c))) → sp vs H Q E →
      ∃ t, PSs (cxOf C8.CX0 P w K mg base N qual (defScope st) f (.ref c) A outer s H E).nox (defBody st) t ∧ t { nx := fun _ H' => Q .non H', rt := Q } (start N vs) H) : FnOk P w K mg base C8.CX0 (k + 1) f fd ps sp := by
  obtain ⟨oc, od, kV, doc, pm, an, cdv, ct, osl, rfl, lk, hcd⟩ := F.ex
  have e : cdv = .ref c := hc _ _ lk rfl
  subst e
  refine fn_of lk hcd S len fun A outer s H vs Q E hr hsp => ?_
  obtain ⟨t, h, q⟩ := hbody A outer s H vs Q E hr hsp
  exact ⟨t, h.nox, q⟩
end
end LamP

set_option Elab.async false
set_option linter.all false
set_option maxRecDepth 100000
set_option maxHeartbeats 4000000
set_option autoImplicit false
/-! the end of a law where one method makes a lambda -/
namespace LamP
open PySem PySem.Spec PyProof.Rows L2 LamX
/-- the code object and the table of the def at f -/
def tabFn (K : PySem.W.Frag) (f : Addr) : Option (Addr × Addr) := match K.lookup f with
  | some ⟨_, _, .func fd, _⟩ => (match fd.code with
    | .ref c => (match K.lookup c with
      | some ⟨_, _, .fields vs, _⟩ => (match (vs[11]? : Option Value) with
        | some (.ref P) => some (c, P)
        | _ => none)
      | _ => none)
    | _ => none)
  | _ => none
theorem code_isF {K : PySem.W.Frag} {f c P : Addr} (ht : tabFn K f = some (c, P)) : CodeIs K f c := by
  intro o fd ho hd
  unfold tabFn at ht
  simp only [ho] at ht
  obtain ⟨oc, od, dt, osl⟩ := o
  simp only at hd
  subst hd
  simp only at ht
  split at ht
  · rename_i c2 hc2
    split at ht
    · split at ht
      · injection ht with h
        injection h with h1 h2
        rw [← h1]
        exact hc2
      · cases ht
    · cases ht
  · cases ht
theorem walk_lamM {l : PySem.W.OpenLaw} {n k : Nat} {q : Program} {loose : List Str} {XP : (Str → Option Value) → Heap → Prop} {YP : World → Heap → Prop} {d : DefRec} {K : Params → PySem.W.Frag} {CX : World → CXT} {x : Str} {ts : List Addr}
    (hn : l.most = some n) (hn2 : n ≤ sizeLine) (hdf : d.params.defaults = []) (hr : Room k callerA) (hY : ∀ (w : World) (h : Heap), YP w h → (K w.params).In h)
    (hTs : ∀ (w : World) (h : Heap), YP w h → ∀ P ∈ ts, h.get? P = some (PySem.W.tabObj #[]))
    (F : ∀ (w : World) (mg : Str → Option Value) (fa : Addr) (h : Heap), YP w h → (K w.params).In h → h.Ns mainGlobals mg → mg d.name = some (.ref fa) → (∀ P ∈ ts, h.get? P = some { cls := .none, data := .fields #[] }) → LawAtS l w (K w.params) (CX w) k n x mg fa h)
    (hCX : ∀ (w : World) (H : Hp) (s : Shared) (e : Value) (s' : Shared), CX w [] H s (fun _ _ _ => False) e s' → False) :
    PySem.W.WalkO q loose XP YP l.row.toRowW d [] (fun f vs => PySem.call f vs) := by
  refine Att.attach_callB hn hdf fun w s₀ s₁ mg mb fa o pm cd doc a vs ns G Y ho hd hcd hmg hobj hints hlen hbits hg => ?_
  have KX := hY w _ Y
  obtain ⟨fd, cs, sp, hT, nT, C, hb, hsp, hF⟩ := F w mg fa _ Y KX G.T.g hmg (hTs w _ Y)
  exact law_callTs KX G.T.g G.T.b G.T.builtins G.T.nolimit hg hT nT C G.T.bmain hobj hints (Nat.le_trans hlen hn2) hr hF hb (fun H hH hS => hsp H a ns hlen hbits hH hS) fun H e s' => hCX w H s₁ e s'
end LamP

set_option Elab.async false
set_option linter.all false
set_option maxRecDepth 100000
set_option maxHeartbeats 4000000
set_option autoImplicit false
/-! the end of a law where one def makes a lambda and repr is asked -/
namespace LamP
open PySem PySem.Spec PyProof.Rows L2 LamX CP
section
variable {K : PySem.W.Frag} {P : Program} {w : World} {mg mb : Str → Option Value} {CX : CXT} {k : Nat} {fa a c tP : Addr} {fd : FuncData} {x : Str} {sp : Sp} {t : Shared} {vals : List Value} {H : Hp}
theorem script_T (KX : K.In t.heap) (G : t.heap.Ns mainGlobals mg) (B : t.heap.Ns builtinsNs mb) (boot : ∀ x : Str, x ≠ "__name__" → mb x = bootBuiltins x) (lim : t.heap.NoLimit) (gens : t.gens = #[])
    (tab : t.heap.get? tP = some { cls := .none, data := .fields #[] }) (nT : K.lookup tP = none) (hc : PySem.W.CodeHd t.heap c tP)
    (bmn : ∃ (bm : Addr) (ob : Obj), mg "__builtins__" = some (.ref bm) ∧ bm ≠ builtinsNs ∧ t.heap.get? bm = some ob ∧ ob.cls = .type "module" ∧ ob.dict = some builtinsNs ∧ ob.data = .plain)
    (own : t.heap.get? a = some { cls := .type "list", data := .seq vals.toArray }) (room : Room k callerA) (F : ∀ base : Heap, K.In base → base.Ns mainGlobals mg → TabB base mg c tP → FnG P w K mg base CX k fa fd [x] sp)
    (bind : ∀ (s : Shared) (u : Value), BindsTo s fd ⟨[u], []⟩ [(x, u)]) (noX : ∀ H e t', CX [] H t (fun _ _ _ => False) e t' → False) (at_ : H tP = some (.tbl #[]))
    (only : ∀ b, H b = none ∨ b = tP ∨ ∃ o xs, H b = some (.frz o (.lst xs))) (ok : HOk P w H t.heap) (lone : ∀ b, H b ≠ none → b = a ∨ b = tP) (notK : H a ≠ none → K.lookup a = none)
    (pr : sp [.ref a] H (fun v _ => v = .bl true) fun _ _ _ => False) :
    codeAny (model P w) callerA (.call (.ref fa) ⟨[.ref a], []⟩) (fun r t' => r = .ok (.ret (.bool true)) ∧ OldK t.heap t'.heap ∧ t'.os = t.os ∧ AllBare t'.gens) t := by
  have low : ∀ {b : Addr} {o : Obj}, t.heap.get? b = some o → H b = none → (hidT t.heap H).get? b = some o := fun z n => hidT_get z n
  -- what is neither a sequence nor an empty table is not tracked
  have free : ∀ {b : Addr} {o : Obj}, t.heap.get? b = some o → (∀ vs n, o.data ≠ .seq vs n) → o.data ≠ .fields #[] → H b = none := fun {b o} e h1 h2 => by
    cases q : H b with
    | none => rfl
    | some u =>
      rcases lone b (by rw [q]; simp) with rfl | rfl
      · rw [own] at e; cases e; exact (h1 _ _ rfl).elim
      · rw [tab] at e; cases e; exact (h2 rfl).elim
  have dct : ∀ {b : Addr} {o : Obj} {es : Array DictEntry} {ep : Nat}, t.heap.get? b = some o → o.data = .dict es ep → H b = none := fun {b o es ep} e d =>
    free e (fun vs n z => by rw [d] at z; cases z) fun z => by rw [d] at z; cases z
  have nsD : ∀ {b : Addr} {m : Str → Option Value}, t.heap.Ns b m → (hidT t.heap H).Ns b m := fun {b m} ⟨o, es, ep, z, d, r⟩ => ⟨o, es, ep, low z (dct z d), d, r⟩
  have kin : K.In (hidT t.heap H) := fun b o z => low (KX b o z) (by
    cases q : H b with
    | none => rfl
    | some u =>
      rcases lone b (by rw [q]; simp) with rfl | rfl
      · rw [notK (by rw [q]; simp)] at z; cases z
      · rw [nT] at z; cases z)
  obtain ⟨mc, l1, l2⟩ := lim
  have md : L2.Mod K mg (hidT t.heap H) := ⟨kin, nsD G, ⟨mb, nsD B, boot⟩, mc, nsD l1, l2⟩
  have env : Env0 P w K mg (hidT t.heap H) callerA [] t H := ⟨rfl, md, fun b o z => of_hidT z, Nat.le_of_eq (hidT_size _ _), trivial, fun b z => absurd (show b ∈ ([] : List Addr) from z) (by simp), ok, .of_eq gens⟩
  have gTab : mainGlobals ≠ tP := fun z => by
    obtain ⟨o, es, ep, e, hd, _⟩ := G
    rw [z, tab] at e
    cases e
    cases hd
  have TB : TabB (hidT t.heap H) mg c tP := by
    refine ⟨?_, ?_, gTab⟩
    · obtain ⟨o, us, file, tf, flags, tg, inF, text, tt, e1, r1, r2, r⟩ := hc
      refine ⟨o, us, file, tf, flags, tg, inF, text, tt, low e1 (free e1 (fun vs n z => by rw [r2] at z; cases z) fun z => ?_), r1, r2, r⟩
      rw [r2] at z
      cases z
      have := r.1
      simp at this
    · obtain ⟨bm, ob, b1, b2, b3, b4, b5, b6⟩ := bmn
      refine ⟨bm, ob, b1, b2, fun q => ?_, fun q => ?_, low b3 (free b3 (fun vs n z => by rw [b6] at z; cases z) fun z => by rw [b6] at z; cases z), b4, b5, b6⟩
      · obtain ⟨o, es, ep, e, hd, _⟩ := G
        rw [q, e] at b3
        cases b3
        rw [hd] at b6
        cases b6
      · rw [q, tab] at b3
        cases b3
        cases b6
  refine codeAny_mono ((F _ kin (nsD G) TB).goes callerA rfl room [] t H ⟨[.ref a], []⟩ [.ref a] [.ref a] _ _ env (bind t (.ref a)) (.cons rfl .nil) pr) fun r t' z => ?_
  match r, z with
  | .error e, z => exact (noX H e t' z).elim
  | .ok (.ret u), ⟨v, H', os, bare, un, ok', ru, q⟩ =>
    cases (show v = .bl true from q)
    cases (show u = Value.bool true from ru)
    obtain ⟨more, tm⟩ := un.tbls tP #[] at_
    have grown := ok' tP _ tm
    have key : ∀ b o, b ≠ tP → t.heap.get? b = some o → t'.heap.get? b = some o := fun b o nb z => by
      rcases only b with n | n | ⟨oo, xs, n⟩
      · exact un.keep b o z n (by intro y; exact absurd (show b ∈ ([] : List Addr) from y) (by simp)) (by simp)
      · exact absurd n nb
      · have g1 := (ok b _ n).1
        rw [z] at g1
        cases g1
        exact (ok' b _ (un.frzs b _ _ n)).1
    refine ⟨rfl, ⟨fun b o z => ?_, fun b o z => ?_⟩, os, bare⟩
    · by_cases hb : b = tP
      · subst hb
        rw [tab] at z
        cases z
        exact .inr (.inl ⟨(hc.tab tab).isCodeTable, rfl, #[], _, rfl, by rw [Array.empty_append]; exact grown⟩)
      · exact .inl (key b o hb z)
    · by_cases hb : b = tP
      · subst hb
        exact ⟨_, grown⟩
      · exact ⟨o, key b o hb z⟩
end
theorem walk_lamG {l : PySem.W.OpenLaw} {n k : Nat} {q : Program} {loose : List Str} {XP : (Str → Option Value) → Heap → Prop} {YP : World → Heap → Prop} {d : DefRec} {K : Params → PySem.W.Frag} {CX : World → CXT} {sp : World → Addr → Sp} {x : Str} {ts : List Addr}
    (hn : l.most = some n) (hz : n ≤ sizeLine) (hdf : d.params.defaults = []) (room : Room k callerA) (hY : ∀ (w : World) (h : Heap), YP w h → (K w.params).In h)
    (hTs : ∀ (w : World) (h : Heap), YP w h → ∀ P ∈ ts, h.get? P = some (PySem.W.tabObj #[]))
    (F : ∀ (w : World) (mg : Str → Option Value) (fa : Addr) (h : Heap), (K w.params).In h → h.Ns mainGlobals mg → mg d.name = some (.ref fa) →
      ∃ (c tP : Addr) (fd : FuncData), PySem.W.codeHdIn (K w.params) c tP = true ∧ ts.contains tP = true ∧ (K w.params).lookup tP = none ∧ (∀ (s : Shared) (u : Value), BindsTo s fd ⟨[u], []⟩ [(x, u)]) ∧
        ∀ base : Heap, (K w.params).In base → base.Ns mainGlobals mg → TabB base mg c tP → FnG l.prog w (K w.params) mg base (CX w) k fa fd [x] (sp w tP))
    (pr : ∀ (w : World) (tP : Addr) (H : Hp) (a : Addr) (ns : List Int), ns.length ≤ n → H tP = some (.tbl #[]) → SqL (K w.params) H a (ns.map V.int) → sp w tP [.ref a] H (fun v _ => v = .bl true) fun _ _ _ => False)
    (noX : ∀ (w : World) (H : Hp) (s : Shared) (e : Value) (s' : Shared), CX w [] H s (fun _ _ _ => False) e s' → False) :
    PySem.W.WalkO q loose XP YP l.row.toRowW d [] (fun f vs => PySem.call f vs) := by
  refine Att.attach_call hn hdf fun w t0 t mg mb fa o pm cd doc a vals ns G Y ho hd hcd hmg own hints few gens => ?_
  have KX := hY w _ Y
  obtain ⟨c, tP, fd, h0, h1, nT, bind, goes⟩ := F w mg fa _ KX G.T.g hmg
  have hc := PySem.W.codeHd_of_K KX h0
  have tab := hTs w _ Y tP (by simpa using h1)
  have rv := vals_ints hints
  have len : ns.length = vals.length := hints.length.symm
  have sz : ns.length ≤ sizeLine := Nat.le_trans few hz
  have aP : a ≠ tP := fun z => by
    rw [z, tab] at own
    have := congrArg Obj.data (Option.some.inj own)
    cases this
  have core := fun (H : Hp) (at_ : H tP = some (.tbl #[])) (only : ∀ b, H b = none ∨ b = tP ∨ ∃ o xs, H b = some (.frz o (.lst xs))) (sq : SqL (K w.params) H a (ns.map V.int)) (ok : HOk l.prog w H t.heap) (lone : ∀ b, H b ≠ none → b = a ∨ b = tP) (notK : H a ≠ none → (K w.params).lookup a = none) =>
    script_T KX G.T.g G.T.b G.T.builtins G.T.nolimit gens tab nT hc G.T.bmain own room goes bind (fun H e s' => noX w H t e s') at_ only ok lone notK (pr w tP H a ns few at_ sq)
  cases hk : (K w.params).lookup a with
  | some ob =>
    have z := KX a ob hk
    rw [own] at z
    cases z
    refine core (fun b => if b = tP then some (.tbl #[]) else none) (if_pos rfl) (fun b => ?_) (.inr ⟨_, vals.toArray, _, hk, rfl, rfl, rfl, by rw [List.size_toArray, ← len]; exact sz, by simpa using rv⟩) (fun b u z => ?_) (fun b z => ?_) fun z => (z (if_neg aP)).elim
    · by_cases e : b = tP
      · exact .inr (.inl e)
      · exact .inl (if_neg e)
    · by_cases e : b = tP
      · subst e
        have z := (if_pos rfl).symm.trans z
        cases z
        exact tab
      · have z := (if_neg e).symm.trans z
        cases z
    · by_cases e : b = tP
      · exact .inr e
      · exact (z (if_neg e)).elim
  | none =>
    refine core (fun b => if b = a then some (.frz { cls := .type "list", data := .seq vals.toArray } (.lst (ns.map V.int))) else if b = tP then some (.tbl #[]) else none) ((if_neg aP.symm).trans (if_pos rfl)) (fun b => ?_) (.inl (.inr ⟨{ cls := .type "list", data := .seq vals.toArray }, if_pos rfl⟩)) (fun b u z => ?_) (fun b z => ?_) fun _ => hk
    · by_cases e : b = a
      · exact .inr (.inr ⟨_, _, if_pos e⟩)
      · by_cases e2 : b = tP
        · exact .inr (.inl e2)
        · exact .inl ((if_neg e).trans (if_neg e2))
    · by_cases e : b = a
      · have z := (if_pos e).symm.trans z
        cases z
        subst e
        exact ⟨own, by rw [List.length_map]; exact sz, vals, _, rv, own⟩
      · have z := (if_neg e).symm.trans z
        by_cases e2 : b = tP
        · have z := (if_pos e2).symm.trans z
          cases z
          subst e2
          exact tab
        · have z := (if_neg e2).symm.trans z
          cases z
    · by_cases e : b = a
      · exact .inl e
      · by_cases e2 : b = tP
        · exact .inr e2
        · exact (z ((if_neg e).trans (if_neg e2))).elim
end LamP

set_option Elab.async false
set_option linter.all false
set_option maxRecDepth 100000
set_option maxHeartbeats 4000000
set_option autoImplicit false
/-! the end of a law where one def of its own makes a lambda and repr is asked -/
namespace LamP
open PySem PySem.Spec PyProof.Rows L2 LamX CP
theorem walk_lamFG {l : PySem.W.OpenLaw} {n k : Nat} {q : Program} {loose : List Str} {XP : (Str → Option Value) → Heap → Prop} {YP : World → Heap → Prop} {d dL : DefRec} {K : Params → PySem.W.Frag} {CX : World → CXT} {sp : World → Addr → Sp} {x xL : Str}
    (hn : l.most = some n) (hz : n ≤ sizeLine) (hdf : d.params.defaults = []) (room : Room k callerA) (hrec : (recsOf q).find? (fun e => e.name == xL) = some dL) (hY : ∀ (w : World) (h : Heap), YP w h → (K w.params).In h)
    (F : ∀ (w : World) (mg : Str → Option Value) (fa : Addr) (h : Heap), (K w.params).In h → h.Ns mainGlobals mg → mg d.name = some (.ref fa) →
      ∃ (c tP : Addr) (fd : FuncData), PySem.W.tabIn (K w.params) xL = some (c, tP) ∧ (K w.params).lookup tP = none ∧ (∀ (s : Shared) (u : Value), BindsTo s fd ⟨[u], []⟩ [(x, u)]) ∧
        ∀ base : Heap, (K w.params).In base → base.Ns mainGlobals mg → TabB base mg c tP → FnG l.prog w (K w.params) mg base (CX w) k fa fd [x] (sp w tP))
    (pr : ∀ (w : World) (tP : Addr) (H : Hp) (a : Addr) (ns : List Int), ns.length ≤ n → H tP = some (.tbl #[]) → SqL (K w.params) H a (ns.map V.int) → sp w tP [.ref a] H (fun v _ => v = .bl true) fun _ _ _ => False)
    (noX : ∀ (w : World) (H : Hp) (s : Shared) (e : Value) (s' : Shared), CX w [] H s (fun _ _ _ => False) e s' → False) :
    PySem.W.WalkO q loose XP YP l.row.toRowW d [] (fun f vs => PySem.call f vs) := by
  refine Att.attach_call hn hdf fun w t0 t mg mb fa o pm cd doc a vals ns G Y ho hd hcd hmg own hints few gens => ?_
  have KX := hY w _ Y
  obtain ⟨c, tP, fd, h1, nT, bind, goes⟩ := F w mg fa _ KX G.T.g hmg
  obtain ⟨hc, tab⟩ := PySem.W.tab_of G.T KX hrec h1
  have rv := vals_ints hints
  have len : ns.length = vals.length := hints.length.symm
  have sz : ns.length ≤ sizeLine := Nat.le_trans few hz
  have aP : a ≠ tP := fun z => by
    rw [z, tab] at own
    have := congrArg Obj.data (Option.some.inj own)
    cases this
  have core := fun (H : Hp) (at_ : H tP = some (.tbl #[])) (only : ∀ b, H b = none ∨ b = tP ∨ ∃ o xs, H b = some (.frz o (.lst xs))) (sq : SqL (K w.params) H a (ns.map V.int)) (ok : HOk l.prog w H t.heap) (lone : ∀ b, H b ≠ none → b = a ∨ b = tP) (notK : H a ≠ none → (K w.params).lookup a = none) =>
    script_T KX G.T.g G.T.b G.T.builtins G.T.nolimit gens tab nT hc G.T.bmain own room goes bind (fun H e s' => noX w H t e s') at_ only ok lone notK (pr w tP H a ns few at_ sq)
  cases hk : (K w.params).lookup a with
  | some ob =>
    have z := KX a ob hk
    rw [own] at z
    cases z
    refine core (fun b => if b = tP then some (.tbl #[]) else none) (if_pos rfl) (fun b => ?_) (.inr ⟨_, vals.toArray, _, hk, rfl, rfl, rfl, by rw [List.size_toArray, ← len]; exact sz, by simpa using rv⟩) (fun b u z => ?_) (fun b z => ?_) fun z => (z (if_neg aP)).elim
    · by_cases e : b = tP
      · exact .inr (.inl e)
      · exact .inl (if_neg e)
    · by_cases e : b = tP
      · subst e
        have z := (if_pos rfl).symm.trans z
        cases z
        exact tab
      · have z := (if_neg e).symm.trans z
        cases z
    · by_cases e : b = tP
      · exact .inr e
      · exact (z (if_neg e)).elim
  | none =>
    refine core (fun b => if b = a then some (.frz { cls := .type "list", data := .seq vals.toArray } (.lst (ns.map V.int))) else if b = tP then some (.tbl #[]) else none) ((if_neg aP.symm).trans (if_pos rfl)) (fun b => ?_) (.inl (.inr ⟨{ cls := .type "list", data := .seq vals.toArray }, if_pos rfl⟩)) (fun b u z => ?_) (fun b z => ?_) fun _ => hk
    · by_cases e : b = a
      · exact .inr (.inr ⟨_, _, if_pos e⟩)
      · by_cases e2 : b = tP
        · exact .inr (.inl e2)
        · exact .inl ((if_neg e).trans (if_neg e2))
    · by_cases e : b = a
      · have z := (if_pos e).symm.trans z
        cases z
        subst e
        exact ⟨own, by rw [List.length_map]; exact sz, vals, _, rv, own⟩
      · have z := (if_neg e).symm.trans z
        by_cases e2 : b = tP
        · have z := (if_pos e2).symm.trans z
          cases z
          subst e2
          exact tab
        · have z := (if_neg e2).symm.trans z
          cases z
    · by_cases e : b = a
      · exact .inl e
      · by_cases e2 : b = tP
        · exact .inr e2
        · exact (z ((if_neg e).trans (if_neg e2))).elim
end LamP

set_option Elab.async false
set_option linter.all false
set_option maxRecDepth 100000
set_option maxHeartbeats 4000000
set_option autoImplicit false
/-! sorted(range(n), key=lambda p: ..), whole keys -/
namespace LamP
open PySem PySem.Spec PySem.W PyProof.Rows L2 LamX
def tSortLamR (K : PySem.W.Frag) (T : List (Addr × Str)) (N : List Str) (p : Str) (te tb : TE) : TE := fun σ H Q => te σ H fun x H1 => ∃ n : Int, x = .int n ∧ RgOk 0 n ∧ Tabs T H1 ∧ ∀ H2, ExtN H1 H2 → Tabs T H2 → ∃ (ks : List Int), ks.length = (rgV 0 n).length ∧
  (∀ (i : Nat) (x : V) (k : Int) (H : Hp), (rgV 0 n)[i]? = some x → ks[i]? = some k → Kp H2 H → tb (lamV N p σ x) H fun v H' => v = .int k ∧ Kp H H') ∧ ∀ q H3, Kp H2 H3 → H3 q = none → Q (.ref q) (upd H3 q (.lst (byKeys (rgV 0 n) ks)))
section
variable {prog : Program} {w : World} {A : Around} {E : Value → Shared → Prop} {s : Shared}
theorem sorted_of_range {r : Addr} {a b : Int} {t u v : Tok} {n : Nat} {kw : List (Str × Value)} {Q : Value → Shared → Prop} (hh : A.in1.handled = none) (hr : IsRange s.heap r a b 1 t u v) (hsmall : Builtin.Range.small a b 1 = true) (hn : Builtin.Range.rangeSize a b 1 = n) (hlen : n ≤ 2 ^ 24)
    (ha1 : argsOk "sorted" ⟨[.ref r], kw⟩) (ha2 : ∀ x, argsOk "list.sort" ⟨[.ref x], kw⟩)
    (body : ∀ (h' : Heap) (tk : Nat) (vs : List Value), (∀ b o, s.heap.get? b = some o → h'.get? b = some o) → ItemsOf (fun i v => ∃ t, v = .int (a + i * 1) t) vs.toArray n → ∀ E' : Value → Shared → Prop,
      wpAny (model prog w) A.in1.in1 (Builtin.«list.sort» ⟨[.ref h'.objs.size], kw⟩) (fun f s' => f = .done (.ret .none) ∧ Q (.ref h'.objs.size) s') E' { s with heap := h'.push (seqObj "list" vs.toArray 0), toks := tk }) :
    wpAny (model prog w) A (call (.builtin "sorted") [.ref r] kw) Q E s := by
  refine call_function_entry_kw kind_sorted plain_sorted entry_sorted ha1 ?_
  unfold Builtin.«sorted»
  refine wpAny_bind (m := checkCount "sorted" 1 1 _) (wpAny_pure ?_)
  refine wpAny_bind (collect_range hh hr hsmall hn hlen fun h' tk acc hk hi => ?_)
  have al : acc.toList.length ≤ sizeLine := by
    have e : acc.size = n := hi.1
    rw [Array.length_toList, e]
    have : sizeLine = 2 ^ 24 := by decide +kernel
    omega
  refine wpAny_bind (wpAny_newList ?_ al)
  refine wpAny_bind (wpAny_holding (wpAny_call_entry_kw slot_list_sort ⟨seqObj "list" acc.toList.toArray 0, Heap.get?_push_size _ rfl, rfl⟩ entry_list_sort ?body (ha2 _)))
  case body =>
    show wpAny (model prog w) A.in1.in1 (Builtin.«list.sort» ⟨[.ref h'.objs.size], kw⟩) _ _ { s with heap := h'.push (seqObj "list" acc.toList.toArray 0), toks := tk }
    refine wpAny_mono (body h' tk acc.toList hk (by rw [Array.toArray_toList]; exact hi) _) (fun f s' hf => ?_) fun _ _ e => e
    obtain ⟨rfl, hq⟩ := hf
    exact ⟨_, rfl, wpAny_pure ⟨_, rfl, hq⟩⟩
end
section
variable {X : Cx}
theorem pe_sortLamR {T : List (Addr × Str)} {c P : Addr} {k : Nat} {e : Expr} {te tb : TE} {rp rpos : Pos} {params : Arguments} {body : Expr} {scope : Scope} {p : Str} {np lpos kpos pos : Pos} (hg : Gl X "sorted") (hm : X.mg "sorted" = none) (hgr : Gl X "range") (hmr : X.mg "range" = none) (hcalm : X.calm = true) (he : PE X e te) (na : starEach [e] X.env = (false, eval e X.env) :: starEach [] X.env)
    (TB : TabB X.base X.mg c P) (hcode : X.env.code = .ref c) (hmT : (P, X.env.qual ++ "<lambda>") ∈ T) (hu : ∀ p ∈ T, p.1 = P → p.2 = X.env.qual ++ "<lambda>") (hr : Room (k + 3) X.A) (L : LamQ X.env.scope scope p) (hdef : defaultsOf params X.env = ([], []))
    (hbind : ∀ (q : Str) (cl : List (Str × Addr)) (pm cv ctv u : Value), bindArgs (PySem.W.kla_fn "<lambda>" q params body scope cl pm cv ctv) ⟨[u], []⟩ = pure [(p, u)])
    (hbody : ∀ (A : Around) (outer : List Env) (s : Shared) (H : Hp) (f c' : Addr), Room k (A.deeper (lamEnv X scope s.heap.objs.size f c')) → PE (lamCxP X A outer s H (fun _ _ _ => False) scope f c' p) body tb)
    (he1 : backTo pos (starEach [(.Call (.Name "range" rp) [e] [] rpos)] X.env) = (false, eval (.Call (.Name "range" rp) [e] [] rpos) X.env) :: backTo pos (starEach [] X.env) := by rfl) (hpl : (backTo pos (starEach [(.Call (.Name "range" rp) [e] [] rpos)] X.env)).any (·.1) = false := by rfl) (hse : starEach [(.Call (.Name "range" rp) [e] [] rpos)] X.env = (false, eval (.Call (.Name "range" rp) [e] [] rpos) X.env) :: starEach [] X.env := by rfl) :
    PE X (.Call (.Name "sorted" np) [(.Call (.Name "range" rp) [e] [] rpos)] [⟨some "key", .Lambda params body scope lpos, kpos⟩] pos) (tSortLamR X.K T X.N p te tb) := by
  refine ⟨fun pins s σ H Q I h => ?_⟩
  refine wpAny_Call_Name_kw (ld_blt I hg hm boot_sorted ?_)
  refine PyProof.Rows.callWith_kw ?main he1 hpl (by rfl) (by rfl)
  rw [he1]
  refine Calls.spliced_cons (Call_ (ld_blt I hgr hmr boot_range (PyProof.Rows.callWith_type1 (one_arg he I h (fun v0 s0 x H1 I0 r1 ⟨n, ex, ro, hT, q1⟩ => ?_) na) na)))
  subst ex
  obtain ⟨tn, rfl⟩ := r1
  refine call_range_1 (Calls.spliced_nil ?_)
  have isR := IsRange.new s0.1 0 n 1 s0.toks tn (s0.toks + 1)
  have fpr := I0.fpOk (Nat.le_refl _) (I0.hok.fresh (Nat.le_refl _))
  have I1 := I0.kept (t' := s0.toks + 2) (h' := s0.heap.push { cls := .type "range", data := .fields #[.int 0 s0.toks, .int n tn, .int 1 (s0.toks + 1)] }) fun b u e => Heap.get?_push_of_some _ e
  generalize hro : ({ cls := .type "range", data := .fields #[.int 0 s0.toks, .int n tn, .int 1 (s0.toks + 1)] } : Obj) = ro0 at I1 isR
  have roC : ∀ v, ro0.data ≠ .cell v := fun v z => by rw [← hro] at z; cases z
  have rAt : (s0.heap.push ro0).get? s0.heap.objs.size = some ro0 := by rw [← hro]; exact Heap.get?_push_size _ rfl
  have Ir : Inv X ((s0.heap.objs.size, ro0) :: pins) σ H1 { s0 with heap := s0.heap.push ro0, toks := s0.toks + 2 } := I1.pins_of fun p hp => by
    rcases List.mem_cons.mp hp with e | hp
    · subst e
      exact ⟨rAt, fpr.1, fpr.2.1, fpr.2.2.1, roC⟩
    · exact I1.pin p (List.mem_append_right _ hp)
  show wpAny _ _ (evalAll ((do let v ← eval (.Lambda params body scope lpos) X.env; standAt pos; pure v) :: [])) _ _ { s0 with heap := s0.heap.push ro0, toks := s0.toks + 2 }
  refine wpAny_evalAll_cons (wpAny_bind (lam_make2 Ir TB hcode hmT hu hT hdef (L.has I1.ok) fun f c' pm ctv H2 s2 I2 eN T2 hf hfn hfr hco => wpAny_bind (wpAny_standAt (wpAny_pure (wpAny_evalAll_nil ?_)))))
  obtain ⟨ks, hkl, key, q⟩ := q1 H2 eN T2
  show wpAny _ _ (call (.builtin "sorted") [.ref s0.heap.objs.size] [(Str.ofString "key", .ref f)]) _ _ s2
  have rg2 : s2.heap.get? s0.heap.objs.size = some ro0 := (I2.pin (s0.heap.objs.size, ro0) (List.mem_append_right _ (List.mem_cons_self ..))).1
  have isR2 : IsRange s2.heap s0.heap.objs.size 0 n 1 s0.toks tn (s0.toks + 1) := by
    have : IsRange (s0.heap.push ro0) s0.heap.objs.size 0 n 1 s0.toks tn (s0.toks + 1) := isR
    unfold IsRange at this ⊢
    rw [rg2]
    rw [rAt] at this
    exact this
  obtain ⟨b1, b2, b3, b4, b5⟩ := ro
  have I2 : Inv X pins σ H2 s2 := I2.pins_of fun p hp => I2.pin p (List.mem_append_right _ (List.mem_cons_of_mem _ hp))
  -- the lambda's own object stands
  have fL : f ≠ X.env.locals := fun z => by
    obtain ⟨m, ⟨o, es, ep, ho, hd, _⟩, _⟩ := I2.loc
    rw [z, ho] at hf
    cases hf
    cases hd
  have fF : f ∉ X.fs := fun z => hfr (by
    rcases I2.ok.stk with e | ⟨e, _⟩
    · rw [e]; exact z
    · rw [e]
      have z : f ∈ frs X.outer := z
      unfold frs at z ⊢
      obtain ⟨y, hy, ey⟩ := List.mem_filterMap.mp z
      exact List.mem_filterMap.mpr ⟨y, List.mem_cons_of_mem _ hy, ey⟩)
  generalize hfo : PySem.W.kla_obj "<lambda>" (X.env.qual ++ "<lambda>") params body scope (cloFrom X.env.cells scope.names []) pm c' ctv = fo at hf
  have foC : ∀ v, fo.data ≠ .cell v := fun v z => by rw [← hfo] at z; cases z
  have Ip : Inv X ((f, fo) :: pins) σ H2 s2 := I2.pins_of fun p hp => by
    rcases List.mem_cons.mp hp with e | hp
    · subst e
      exact ⟨hf, hfn, fL, fF, foC⟩
    · exact I2.pin p (List.mem_append_right _ hp)
  have hrr : Room (k + 1) X.A.in1.in1 := hr.in1.in1
  have un := hrr.units
  refine sorted_of_range (I2.ok.hd hcalm) isR2 (small_one b1 b2 b3 b4) (rangeSize_nat 0 n) b5 (ksk_s1 _ _) (fun _ => ksk_l1 _ _) fun h3 tk3 its hk3 hi3 E' => ?_
  have rv : Vals (rgV 0 n) its := by
    have := vals_rg (a := 0) (b := n) hi3
    exact this
  have hxl := rgV_length 0 n
  generalize rgV 0 n = xs at *
  have il := rv.length
  have hz : xs.length ≤ sizeLine := by rw [hxl, sizeLine_eq]; exact b5
  have cz : h3.objs.size ≤ (h3.push (seqObj "list" its.toArray 0)).objs.size := by rw [size_push']; exact Nat.le_succ _
  have Ip3 : Inv X ((f, fo) :: pins) σ H2 { s2 with heap := h3, toks := tk3 } := Ip.kept hk3
  rw [ksk_t1]
  refine SrtK.keyJ_tree (kz := ks.map .int) (b := false) (a := h3.objs.size) (s := { s2 with heap := h3.push (seqObj "list" its.toArray 0), toks := tk3 }) (A := X.A.in1.in1)
    (St := fun kS e1 i s' => ∃ H', Inv X ((f, fo) :: pins) σ H' s' ∧ Kp H2 H' ∧ FpOk X ((f, fo) :: pins) H' kS ∧ FpOk X ((f, fo) :: pins) H' (h3.objs.size))
    (Kr := fun _ _ v d => ∃ n t, v = .int n t ∧ d = .int n) (Heap.get?_push_size _ rfl) (by rw [List.length_map, hkl, il]) (by rw [← il]; exact hz) (fun d hd d' hd' => ?_) (.inr fun d hd => ?_) (fun d hd => ?_) (fun h' e1 kS le keep nk na => ?_) (fun kS e1 le i v d s' kA e0 hv hd st nk na => ?_) (fun _ _ _ _ _ _ z _ => z) (fun _ s' v d z => ?_) fun kS e1 s' h' tk out c0 le st keep na ko => ?_
  · obtain ⟨n, _, rfl⟩ := List.mem_map.mp hd
    obtain ⟨m, _, rfl⟩ := List.mem_map.mp hd'
    rfl
  · obtain ⟨n, _, rfl⟩ := List.mem_map.mp hd
    exact ⟨fun z => (by cases z), fun xs z => (by cases z)⟩
  · obtain ⟨n, _, rfl⟩ := List.mem_map.mp hd
    have : (PyData.int n).depth = 0 := by simp [PyData.depth]
    rw [this]
    omega
  · have J : Inv X ((f, fo) :: pins) σ H2 { s2 with heap := h', toks := tk3 } := Ip3.kept (t' := tk3) fun b o e => keep b o (Nat.ne_of_lt (Heap.lt_size e)) (Heap.get?_push_of_some _ e)
    exact ⟨H2, J, fun _ _ e => e, Ip3.fpOk (Nat.le_trans cz le) (Ip3.hok.fresh (Nat.le_trans cz le)), Ip3.fpOk (Nat.le_refl _) (Ip3.hok.fresh (Nat.le_refl _))⟩
  · obtain ⟨H', J, kp, fk, fa⟩ := st
    rw [List.getElem?_map] at hd
    obtain ⟨k0, hk0, rfl⟩ := Option.map_eq_some_iff.mp hd
    have ix : i < xs.length := by rw [il]; exact (List.getElem?_eq_some_iff.mp hv).1
    have hx : xs[i]? = some xs[i] := List.getElem?_eq_getElem ix
    obtain ⟨v', hv', ru⟩ := rv.get hx
    rw [hv] at hv'
    cases hv'
    have J2 : Inv X ((kS, seqObj "list" kA e0) :: (h3.objs.size, seqObj "list" #[] e1) :: (f, fo) :: pins) σ H' s' := J.pins_of fun p hp => by
      rcases List.mem_cons.mp hp with e | hp
      · subst e
        exact ⟨nk, fk.1, fk.2.1, fk.2.2.1, fun v z => by cases z⟩
      · rcases List.mem_cons.mp hp with e | hp
        · subst e
          exact ⟨na, fa.1, fa.2.1, fa.2.2.1, fun v z => by cases z⟩
        · exact J.pin p (List.mem_append_right _ hp)
    have rawf : s'.heap.get? f = some fo := (J.pin (f, fo) (List.mem_append_right _ (List.mem_cons_self ..))).1
    rw [← hfo] at rawf
    refine wpAny_mono (lam_call (F := fun _ _ => False) J2 L J2.env0.in1.in1 hrr rawf (kp _ _ hco) (hbind _ _ _ _ _ _) ru (hbody _ _ _ _ _ _ (hrr.deeper _)) (key i _ k0 H' hx hk0 kp) fun e s'' z => ?_) (fun u s'' hq => ?_) fun _ _ z => z
    · obtain ⟨_, _, _, _, _, _, _, _, _, _, _, _, z⟩ := z
      exact z
    · obtain ⟨v2, H3, J3, r3, e3, kp3⟩ := hq
      subst e3
      obtain ⟨t, rfl⟩ := r3
      have p1 := J3.pin (kS, seqObj "list" kA e0) (List.mem_append_right _ (List.mem_cons_self ..))
      have p2 := J3.pin (h3.objs.size, seqObj "list" #[] e1) (List.mem_append_right _ (List.mem_cons_of_mem _ (List.mem_cons_self ..)))
      refine ⟨p1.1, p2.1, ⟨k0, t, rfl, rfl⟩, fun _ _ z => z, fun h' sb => ⟨H3, ?_, fun b o e => kp3 _ _ (kp _ _ e), ⟨p1.2.1, fk.2⟩, ⟨p2.2.1, fa.2⟩⟩⟩
      have J4 : Inv X ((f, fo) :: pins) σ H3 s'' := J3.pins_of fun p hp => J3.pin p (List.mem_append_right _ (List.mem_cons_of_mem _ (List.mem_cons_of_mem _ hp)))
      exact J4.turnedL (t' := s''.toks) (ch := [kS]) (fun c o hc q => (sb.2 c fun z => hc (by rw [z]; exact List.mem_cons_self ..)).trans q) fun b hb => by
        rw [List.mem_singleton.mp hb]
        exact ⟨p1.2.1, fk.2⟩
  · obtain ⟨n, t, rfl, rfl⟩ := z
    exact ⟨[], .int n t⟩
  · obtain ⟨H', J, kp, fk, fa⟩ := st
    have J1 : Inv X ((f, fo) :: pins) σ H' { s' with heap := h', toks := tk } := J.turnedL (t' := tk) (ch := [kS, h3.objs.size]) (fun c o hc q => keep c o (fun z => hc (by rw [z]; simp)) (fun z => hc (by rw [z]; simp)) q) fun b hb => by
      rcases List.mem_cons.mp hb with e | hb
      · rw [e]; exact fk
      · rw [List.mem_singleton.mp hb]; exact fa
    have J5 : Inv X pins σ H' { s' with heap := h', toks := tk } := J1.pins_of fun p hp => J1.pin p (List.mem_append_right _ (List.mem_cons_of_mem _ hp))
    have fa5 : FpOk X pins H' (h3.objs.size) := by
      obtain ⟨f1, f2, f3, f4, f5, f6⟩ := fa
      refine ⟨f1, f2, f3, f4, f5, fun p hp => f6 p ?_⟩
      rcases List.mem_append.mp hp with z | z
      · exact List.mem_append_left _ z
      · exact List.mem_append_right _ (List.mem_cons_of_mem _ z)
    have em : (xs.zip ks).map (fun b => PyData.int b.2) = ks.map .int := by
      have : (xs.zip ks).map Prod.snd = ks := List.map_snd_zip (by omega)
      rw [show (fun b : V × Int => PyData.int b.2) = PyData.int ∘ Prod.snd from rfl, ← List.map_map, this]
    rw [← em] at ko
    have eo := keyedOut_each (fun b : V × Int => PyData.int b.2) ko (vals_each rv hkl)
    rw [dataLe_int] at eo
    have ev : Vals (byKeys xs ks) out := each_vals eo
    have lb : (byKeys xs ks).length = xs.length := by
      unfold byKeys
      rw [List.length_map, List.length_mergeSort, List.length_zip, hkl, Nat.min_self]
    refine ⟨rfl, .ref (h3.objs.size), upd H' (h3.objs.size) (.lst (byKeys xs ks)), ?_, rfl, q _ H' kp fa.1⟩
    exact J5.take (h' := h') (t' := tk) (fun b ob _ e => e) fa5 ⟨by rw [lb]; exact hz, out, c0, ev, na⟩
end
end LamP

set_option Elab.async false
set_option linter.all false
set_option maxRecDepth 100000
set_option maxHeartbeats 4000000
set_option autoImplicit false
/-! repr of data in which dicts stand -/
namespace CP
open L2 PySem PyProof.Rows
def kD : Key → PyData
  | .inl i => .int i
  | .inr x => .str x
mutual
inductive DpD (H : Hp) : V → PyData → Prop
  | non : DpD H .non .none
  | bl (b : Bool) : DpD H (.bl b) (.bool b)
  | int (i : Int) : DpD H (.int i) (.int i)
  | str (x : Str) : DpD H (.str x) (.str x)
  | lst {a : Addr} {xs : List V} {ds : List PyData} : Rd H a (.lst xs) → a ≠ sysModules → DpDs H xs ds → DpD H (.ref a) (.list ds)
  | tup {a : Addr} {xs : List V} {ds : List PyData} : Rd H a (.tup xs) → DpDs H xs ds → DpD H (.ref a) (.tuple ds)
  | dct {a : Addr} {kvs : List (Key × V)} {ds : List PyData} : Rd H a (.dK kvs) → DpDs H (kvs.map (·.2)) ds → DpD H (.ref a) (.dict ((kvs.map fun p => kD p.1).zip ds))
inductive DpDs (H : Hp) : List V → List PyData → Prop
  | nil : DpDs H [] []
  | cons {v : V} {vs : List V} {d : PyData} {ds : List PyData} : DpD H v d → DpDs H vs ds → DpDs H (v :: vs) (d :: ds)
end
theorem DpDs.len {H : Hp} {vs : List V} {ds : List PyData} (h : DpDs H vs ds) : vs.length = ds.length := by
  induction vs generalizing ds with
  | nil => cases h; rfl
  | cons v vs ih => cases h with | cons _ t => simp [ih t]
theorem DpDs.rep {H : Hp} {v : V} {d : PyData} (h : DpD H v d) : ∀ n : Nat, DpDs H (List.replicate n v) (List.replicate n d)
  | 0 => .nil
  | n + 1 => .cons h (DpDs.rep h n)
theorem rd_mono {H H' : Hp} {a : Addr} {o : HO} (s : Same H H') (h : Rd H a o) : Rd H' a o := by
  rcases h with h | ⟨u, h⟩
  · exact .inl (CP.Same.to s h)
  · exact .inr ⟨u, CP.Same.to s h⟩
mutual
theorem DpD.mono {H H' : Hp} (s : Same H H') : ∀ {v : V} {d : PyData}, DpD H v d → DpD H' v d
  | _, _, .non => .non
  | _, _, .bl b => .bl b
  | _, _, .int i => .int i
  | _, _, .str x => .str x
  | _, _, .lst r n h => .lst (rd_mono s r) n (DpDs.mono s h)
  | _, _, .tup r h => .tup (rd_mono s r) (DpDs.mono s h)
  | _, _, .dct r h => .dct (rd_mono s r) (DpDs.mono s h)
theorem DpDs.mono {H H' : Hp} (s : Same H H') : ∀ {v : List V} {d : List PyData}, DpDs H v d → DpDs H' v d
  | _, _, .nil => .nil
  | _, _, .cons a b => .cons (DpD.mono s a) (DpDs.mono s b)
end
theorem kD_reads {h : Heap} {k : Key} {v : Value} (z : keyIs k v = true) : Reads h v (kD k) [] := by
  rcases keyIs_shape z with ⟨i, t, rfl, rfl⟩ | ⟨x, t, rfl, rfl⟩
  · exact .int i t
  · exact .str x t
theorem keys_reads {P : Program} {w : World} {h : Heap} {es : List DictEntry} {vs : List (Key × Value)} (q : Pairs (mixKind P w) es vs) : ReadsAll h (es.map (·.key)) (vs.map fun p => kD p.1) [] := by
  induction q with
  | nil => exact .nil
  | cons a b _ ih => exact ReadsAll.cons (as := []) (bs := []) (kD_reads a) ih
theorem vals_eq {P : Program} {w : World} {es : List DictEntry} {vs : List (Key × Value)} (q : Pairs (mixKind P w) es vs) : es.map (·.val) = vs.map (·.2) := by
  induction q with
  | nil => rfl
  | cons a b _ ih => simp [b, ih]
theorem kv_keys {kvs : List (Key × V)} {vs : List (Key × Value)} (q : KV kvs vs) : (vs.map fun p => kD p.1) = kvs.map fun p => kD p.1 := by
  unfold KV at q
  induction q with
  | nil => rfl
  | cons a _ ih => simp [a.1, ih]
theorem kv_vals {kvs : List (Key × V)} {vs : List (Key × Value)} (q : KV kvs vs) : Vals (kvs.map (·.2)) (vs.map (·.2)) := by
  unfold KV at q
  induction q with
  | nil => exact .nil
  | cons a _ ih => exact .cons a.2 ih
section
variable {X : Cx} {pins : List (Addr × Obj)} {σ : L2.St} {H : Hp} {s : Shared}
mutual
theorem DpD.reads (I : Inv X pins σ H s) : ∀ {v : V} {d : PyData} (u : Value), DpD H v d → RelV v u → ∃ as, Reads s.heap u d as ∧ sysModules ∉ as
  | _, _, _, .non, r => by cases r; exact ⟨_, .none, (by simp)⟩
  | _, _, _, .bl b, r => by cases r; exact ⟨_, .bool b, (by simp)⟩
  | _, _, _, .int i, r => by obtain ⟨t, rfl⟩ := r; exact ⟨_, .int i t, (by simp)⟩
  | _, _, _, .str x, r => by obtain ⟨t, rfl⟩ := r; exact ⟨_, .str x t, (by simp)⟩
  | _, _, _, .lst hs ne ha, r => by
    cases r
    obtain ⟨its, rv, ⟨o, n, ho, hc, _, hd⟩, _⟩ := I.list (.inl hs)
    obtain ⟨as, hr, tk⟩ := DpDs.reads I its ha rv
    exact ⟨_, Reads.list ho hc hd hr, fun z => (List.mem_cons.mp z).elim (fun e => ne e.symm) tk⟩
  | _, _, _, .tup hs ha, r => by
    cases r
    obtain ⟨its, rv, ⟨o, ho, hc, n, hd⟩, _⟩ := I.tuple (.inl hs)
    obtain ⟨as, hr, tk⟩ := DpDs.reads I its ha rv
    exact ⟨_, Reads.tuple ho hc hd hr, tk⟩
  | _, _, _, .dct (kvs := kvs) (ds := ds) hs ha, r => by
    cases r
    obtain ⟨_, na, vs, q, o, es, ep, e, ed, hd, _, pr, _⟩ := dk_rd I.hok hs
    obtain ⟨as, hr, tk⟩ := DpDs.reads I _ ha (kv_vals q)
    have hk := keys_reads (h := s.heap) pr
    rw [kv_keys q] at hk
    rw [← vals_eq pr] at hr
    have ln : (kvs.map fun p => kD p.1).length = ds.length := by
      have := ha.len
      simp at this ⊢
      exact this
    refine ⟨_, Reads.dict (as := []) (bs := as) e ?_ hd ?_ ?_, ?_⟩
    · exact ed.1
    · rw [List.map_fst_zip (by omega)]; exact hk
    · rw [List.map_snd_zip (by omega)]; exact hr
    · intro z
      simp only [List.append_nil, List.cons_append, List.nil_append, List.mem_cons] at z
      rcases z with z | z
      · rw [← z] at na
        cases na
      · exact tk z
theorem DpDs.reads (I : Inv X pins σ H s) : ∀ {vs : List V} {ds : List PyData} (us : List Value), DpDs H vs ds → Vals vs us → ∃ as, ReadsAll s.heap us ds as ∧ sysModules ∉ as
  | _, _, _, .nil, r => by cases r; exact ⟨_, .nil, (by simp)⟩
  | _, _, _, .cons h1 h2, r => by
    cases r with
    | cons r1 r2 =>
      obtain ⟨as, q1, t1⟩ := DpD.reads I _ h1 r1
      obtain ⟨bs, q2, t2⟩ := DpDs.reads I _ h2 r2
      exact ⟨_, .cons q1 q2, fun z => (List.mem_append.mp z).elim t1 t2⟩
end
/-- repr of such data -/
def rReprD (K : PySem.W.Frag) : List V → Hp → VK → Prop := fun xs H Q => ∃ a d, xs = [.ref a] ∧ ((Dp K H (.ref a) d ∧ d.hasDict = false) ∨ DpD H (.ref a) d) ∧ d.showable = true ∧ d.depth ≤ 60 ∧ d.shown.length ≤ sizeLine ∧ Q (.str d.shown) H
theorem call_reprDD (gd : Gd X.A) (hu : X.A.units + 64 < cLine) : CallR X (.builtin "repr") (rReprD X.K) := by
  intro pins s σ H xs us Q I r h
  obtain ⟨a, d, rfl, hd, hs, h6, hz, q⟩ := h
  obtain ⟨u, rfl, ru⟩ := vals1 r
  have key : ∃ as, Reads s.heap u d as ∧ (d.hasDict = true → sysModules ∉ as) := by
    rcases hd with ⟨hd, hn⟩ | hd
    · obtain ⟨as, rd⟩ := Dp.reads I d _ u hd ru
      exact ⟨as, rd, fun z => by rw [hn] at z; cases z⟩
    · obtain ⟨as, rd, tk⟩ := hd.reads I u ru
      exact ⟨as, rd, fun _ => tk⟩
  obtain ⟨as, rd, tk⟩ := key
  cases (show u = Value.ref a from ru)
  exact repr_of_reads' rd hs tk gd (by omega) (fun _ _ z => z) (fun h' v tk keep => ⟨.str d.shown, H, inv_grow I keep (Same.refl _) (fun _ _ z => .inl z), ⟨_, rfl⟩, q⟩) hz
/-- repr of any such data, flat or not -/
def rReprA (K : PySem.W.Frag) : List V → Hp → VK → Prop := fun xs H Q => ∃ v d, xs = [v] ∧ ((Dp K H v d ∧ d.hasDict = false) ∨ DpD H v d) ∧ d.showable = true ∧ d.depth ≤ 60 ∧ d.shown.length ≤ sizeLine ∧ Q (.str d.shown) H
theorem call_reprA (gd : Gd X.A) (hu : X.A.units + 64 < cLine) : CallR X (.builtin "repr") (rReprA X.K) := by
  intro pins s σ H xs us Q I r h
  obtain ⟨v, d, rfl, hd, hs, h6, hz, q⟩ := h
  obtain ⟨u, rfl, ru⟩ := vals1 r
  have key : ∃ as, Reads s.heap u d as ∧ (d.hasDict = true → sysModules ∉ as) := by
    rcases hd with ⟨hd, hn⟩ | hd
    · obtain ⟨as, rd⟩ := Dp.reads I d _ u hd ru
      exact ⟨as, rd, fun z => by rw [hn] at z; cases z⟩
    · obtain ⟨as, rd, tk⟩ := hd.reads I u ru
      exact ⟨as, rd, fun _ => tk⟩
  obtain ⟨as, rd, tk⟩ := key
  have on : ∀ {a : Addr}, u = .ref a → wpAny (model X.prog X.w) X.A (call (.builtin "repr") [u]) (EP X pins σ Q) X.xe s := fun {a} e => by
    subst e
    exact repr_of_reads' rd hs tk gd (by omega) (fun _ _ z => z) (fun h' v tk keep => ⟨.str d.shown, H, inv_grow I keep (Same.refl _) (fun _ _ z => .inl z), ⟨_, rfl⟩, q⟩) hz
  cases rd with
  | none => exact PySem.P.repr_of_none ⟨.str _, H, I.tok _, ⟨_, rfl⟩, q⟩
  | bool b => exact PySem.P.repr_of_bool ⟨.str _, H, I.tok _, ⟨_, rfl⟩, q⟩
  | int i t => exact PySem.P.repr_of_int (by simpa [PyData.showable] using hs) ⟨.str _, H, I.tok _, ⟨_, rfl⟩, q⟩
  | str x t => exact PySem.P.repr_of_str ⟨.str _, H, I.tok _, ⟨_, rfl⟩, q⟩ hz
  | list _ _ _ _ => exact on rfl
  | tuple _ _ _ _ => exact on rfl
  | dict _ _ _ _ _ => exact on rfl
/-- list + list, list * int: the new list is not the table of modules -/
def rCatX : R2 := fun x y H Q => ∃ l b xs zs, x = .ref l ∧ y = .ref b ∧ H l = some (.lst xs) ∧ H b = some (.lst zs) ∧ xs.length + zs.length ≤ sizeLine ∧ ∀ p, p ≠ sysModules → H p = none → Q (.ref p) (upd H p (.lst (xs ++ zs)))
theorem new_ne (I : Inv X pins σ H s) : s.heap.objs.size ≠ sysModules := fun e => by
  have := I.big
  rw [e] at this
  exact Nat.lt_irrefl _ this
theorem op_catX : OpR X (binaryOp .Add) rCatX := by
  intro pins s σ H x y v u Q I rx ry ⟨l, b, xs, zs, e1, e2, hl, hb, sz, q⟩
  subst e1 e2
  cases rx
  cases ry
  obtain ⟨_, i1, n1, r1, l1, g1⟩ := I.lstM hl
  obtain ⟨_, i2, n2, r2, l2, g2⟩ := I.lstM hb
  refine PySem.P.add_list g1 g2 ?_ (by simp only [List.size_toArray]; omega)
  rw [show i1.toArray ++ i2.toArray = (i1 ++ i2).toArray by simp]
  exact ⟨.ref _, _, I.lnew (t' := s.toks) (r1.append r2) (by simp only [List.length_append]; omega), rfl, q _ (new_ne I) I.fresh⟩
def rRepX : R2 := fun x y H Q => ∃ l k xs, x = .ref l ∧ y = .int k ∧ H l = some (.lst xs) ∧ 0 ≤ k ∧ k < 2 ^ 63 ∧ xs.length * k.toNat ≤ sizeLine ∧ ∀ p, p ≠ sysModules → H p = none → Q (.ref p) (upd H p (.lst (List.replicate k.toNat xs).flatten))
theorem op_repX : OpR X (binaryOp .Mult) rRepX := by
  intro pins s σ H x y v u Q I rx ry ⟨l, k, xs, e1, e2, hl, k0, k1, sz, q⟩
  subst e1 e2
  cases rx
  obtain ⟨tk, rfl⟩ := ry
  obtain ⟨_, its, n, rv, ll, g⟩ := I.lstM hl
  have sz' : its.toArray.size * k.toNat ≤ sizeLine := by simp only [List.size_toArray]; rw [← ll]; exact sz
  have cap : ¬ its.toArray.size * k.toNat > (2 ^ 63 - 1) / 8 := fun z => by
    have : (sizeLine : Nat) ≤ (2 ^ 63 - 1) / 8 := by decide
    omega
  have fits : ¬ (!Builtin.List.listFitsIndex k) = true := by rw [fitsIndex_both (by omega) k1]; simp
  have short : ¬ Builtin.List.listTooLong (its.toArray.size * k.toNat) = true := by rw [notLongL sz']; simp
  have made : List.foldl (fun y z => y ++ z) #[] (List.replicate (if its.toArray.isEmpty = true then 0 else k.toNat) its.toArray) = (List.replicate k.toNat its).flatten.toArray := by
    have all : ∀ m : Nat, List.foldl (fun y z => y ++ z) #[] (List.replicate m its.toArray) = (List.replicate m its).flatten.toArray := fun m => by
      simpa using foldl_rep its m []
    rw [all]
    cases its <;> simp
  refine wpAny_binaryOp_repeat_ref (T := "list") (U := "int") (by decide) ⟨_, g, rfl⟩ (fun s' => typeIs_int s' k tk) noFill_list_mul F.fills_int_mul F.slot_int_rmul repeat_list
    F.slot_int_index.lookup (call_meets F.slot_int_rmul (typeIs_int s k tk) F.entry_int_rmul (F.args_int_rmul_2 _ _) (int___rmul___int_list k tk l its.toArray n)
      ⟨g, rfl, ⟨_, g, rfl⟩, call_meets F.slot_list_mul ⟨_, g, rfl⟩ F.entry_list_mul (F.args_list_mul_2 _ _) (AutoListH.list___mul___list_int_3 l its.toArray n k tk fits cap short) ⟨g, ?_⟩⟩)
  rw [made]
  exact ⟨.ref _, _, I.lnew (t' := s.toks) (rv.rep k.toNat) (by rw [PyProof.Rows.lm_len_rep_flat, Nat.mul_comm]; exact sz), rfl, q _ (new_ne I) I.fresh⟩
end
theorem r_catX {H : Hp} {Q : VK} {l b : Addr} {xs zs : List V} (h : H l = some (.lst xs)) (g : H b = some (.lst zs)) (sz : xs.length + zs.length ≤ sizeLine) (q : ∀ p H', p ≠ sysModules → Same H H' → H' p = some (.lst (xs ++ zs)) → Q (.ref p) H') : rCatX (.ref l) (.ref b) H Q :=
  ⟨l, b, xs, zs, rfl, rfl, h, g, sz, fun p ne n => q p _ ne (same_new n) upd_same⟩
theorem r_repX {H : Hp} {Q : VK} {l : Addr} {xs : List V} {k : Int} (h : H l = some (.lst xs)) (k0 : 0 ≤ k) (k1 : k < 2 ^ 63) (sz : xs.length * k.toNat ≤ sizeLine) (q : ∀ p H', p ≠ sysModules → Same H H' → H' p = some (.lst (List.replicate k.toNat xs).flatten) → Q (.ref p) H') : rRepX (.ref l) (.int k) H Q :=
  ⟨l, k, xs, rfl, rfl, h, k0, k1, sz, fun p ne n => q p _ ne (same_new n) upd_same⟩
/-- data that repr shows in few signs -/
structure Shw (d : PyData) : Prop where
  show_ : d.showable = true
  flat : d.depth ≤ 3
  short : PyData.leavesShort 40 d = true
  light : d.weight ≤ 500
/-- the same, somewhat more -/
structure ShwW (d : PyData) : Prop where
  show_ : d.showable = true
  flat : d.depth ≤ 3
  short : PyData.leavesShort 40 d = true
  light : d.weight ≤ 1000
theorem Shw.w {d : PyData} (h : Shw d) : ShwW d := ⟨h.show_, h.flat, h.short, Nat.le_trans h.light (by decide)⟩
theorem showA_app : ∀ (a b : List PyData), PyData.showableAll (a ++ b) = (PyData.showableAll a && PyData.showableAll b)
  | [], b => by simp [PyData.showableAll]
  | x :: a, b => by simp [PyData.showableAll, showA_app a b, Bool.and_assoc]
theorem shortA_app (B : Nat) : ∀ (a b : List PyData), PyData.leavesShortAll B (a ++ b) = (PyData.leavesShortAll B a && PyData.leavesShortAll B b)
  | [], b => by simp [PyData.leavesShortAll]
  | x :: a, b => by simp [PyData.leavesShortAll, shortA_app B a b, Bool.and_assoc]
theorem dictA_app : ∀ (a b : List PyData), PyData.hasDictAll (a ++ b) = (PyData.hasDictAll a || PyData.hasDictAll b)
  | [], b => by simp [PyData.hasDictAll]
  | x :: a, b => by simp [PyData.hasDictAll, dictA_app a b, Bool.or_assoc]
theorem depthA_app : ∀ (a b : List PyData), PyData.depthAll (a ++ b) = max (PyData.depthAll a) (PyData.depthAll b)
  | [], b => by simp [PyData.depthAll]
  | x :: a, b => by simp only [List.cons_append, PyData.depthAll, depthA_app a b]; omega
theorem weightA_app : ∀ (a b : List PyData), PyData.weightAll (a ++ b) = PyData.weightAll a + PyData.weightAll b
  | [], b => by simp [PyData.weightAll]
  | x :: a, b => by simp only [List.cons_append, PyData.weightAll, weightA_app a b]; omega
theorem DpA_app {K : PySem.W.Frag} {H : Hp} {xs ys : List V} {ds es : List PyData} (h : DpAll K H xs ds) (g : DpAll K H ys es) : DpAll K H (xs ++ ys) (ds ++ es) := by
  induction xs generalizing ds with
  | nil => cases h; exact g
  | cons x xs ih => cases h with | cons a b => exact .cons a (ih b)
theorem Shw.later {ds : List PyData} (h : Shw (.list ds)) : ShwW (.list (ds ++ [.str "later"])) := by
  obtain ⟨a, b, c, d⟩ := h
  refine ⟨?_, ?_, ?_, ?_⟩
  · simp only [PyData.showable] at a ⊢
    rw [showA_app, a]; rfl
  · simp only [PyData.depth] at b ⊢
    rw [depthA_app]
    simp only [PyData.depthAll, PyData.depth]
    omega
  · simp only [PyData.leavesShort] at c ⊢
    rw [shortA_app, c]; decide +kernel
  · simp only [PyData.weight] at d ⊢
    rw [weightA_app]
    have : PyData.weightAll [PyData.str "later"] = 6 := by decide +kernel
    omega
/-- what an error may be given: it is not a list and stays what it is, or a list -/
def ThingT (K : PySem.W.Frag) (H : Hp) (v : V) : Prop := ∃ (d : PyData) (n : String), Shw d ∧ n ∈ ["NoneType", "bool", "int", "str", "tuple", "dict"] ∧ ∀ H', Same H H' → TK K H' v n ∧ ((Dp K H' v d ∧ d.hasDict = false) ∨ DpD H' v d)
def ThingL (K : PySem.W.Frag) (H : Hp) (v : V) : Prop := ∃ (a : Addr) (xs : List V) (ds : List PyData), v = .ref a ∧ H a = some (.lst xs) ∧ xs.length ≤ 3 ∧ Shw (.list ds) ∧ PyData.hasDictAll ds = false ∧ ∀ H', (∀ b o, b ≠ a → H b = some o → H' b = some o) → DpAll K H' xs ds
theorem shw_int {i : Int} (h : i.natAbs < 10 ^ 30) : Shw (.int i) ∧ (PyData.int i).weight ≤ 111 := by
  have l : i.natAbs.log2 < 110 := by
    by_cases z : i.natAbs = 0
    · rw [z]; decide
    · have : i.natAbs < 2 ^ 110 := Nat.lt_trans h (by decide)
      exact (Nat.log2_lt z).mpr this
  have w : (PyData.int i).weight ≤ 111 := by
    simp only [PyData.weight]
    split <;> omega
  refine ⟨⟨?_, by simp [PyData.depth], ?_, by omega⟩, w⟩
  · simp only [PyData.showable, decide_eq_true_eq]
    omega
  · have e := int_text_length_le10 (k := 30) (a := i) (by decide) h
    have e2 : (PyData.shown (.int i)).length = (toString i).length := PySem.ofString_length _
    simp only [PyData.leavesShort, decide_eq_true_eq]
    omega
theorem shw_list {i : Int} (h : Shw (.int i) ∧ (PyData.int i).weight ≤ 111) : Shw (.list [.int i]) := by
  obtain ⟨⟨a, b, c, _⟩, d⟩ := h
  refine ⟨?_, ?_, ?_, ?_⟩
  · simp [PyData.showable, PyData.showableAll] at a ⊢; exact a
  · simp [PyData.depth, PyData.depthAll]
  · simp [PyData.leavesShort, PyData.leavesShortAll] at c ⊢; exact c
  · simp only [PyData.weight, PyData.weightAll] at d ⊢; omega
theorem shw_tup {i : Int} (h : Shw (.int i) ∧ (PyData.int i).weight ≤ 111) : Shw (.tuple [.int i, .str "a"]) := by
  obtain ⟨⟨a, b, c, _⟩, d⟩ := h
  refine ⟨?_, ?_, ?_, ?_⟩
  · simp [PyData.showable, PyData.showableAll] at a ⊢; exact a
  · simp [PyData.depth, PyData.depthAll]
  · simp [PyData.leavesShort, PyData.leavesShortAll] at c ⊢; exact ⟨c, by decide +kernel⟩
  · simp only [PyData.weight, PyData.weightAll] at d ⊢
    have : (("a" : String) : Str).cps.size = 1 := by decide +kernel
    omega
theorem shw_dict {i : Int} (h : Shw (.int i) ∧ (PyData.int i).weight ≤ 111) : Shw (.dict [(.str "a", .int i)]) := by
  obtain ⟨⟨a, b, c, _⟩, d⟩ := h
  refine ⟨?_, ?_, ?_, ?_⟩
  · simp [PyData.showable, PyData.showableKv] at a ⊢; exact a
  · simp [PyData.depth, PyData.depthKv]
  · simp [PyData.leavesShort, PyData.leavesShortKv] at c ⊢; exact ⟨by decide +kernel, c⟩
  · simp only [PyData.weight, PyData.weightKv] at d ⊢
    have : (("a" : String) : Str).cps.size = 1 := by decide +kernel
    omega
theorem shw_nest {i : Int} (h : Shw (.int i) ∧ (PyData.int i).weight ≤ 111) : Shw (.list [.list [.int i], .none]) := by
  obtain ⟨⟨a, b, c, _⟩, d⟩ := h
  refine ⟨?_, ?_, ?_, ?_⟩
  · simp [PyData.showable, PyData.showableAll] at a ⊢; exact a
  · simp [PyData.depth, PyData.depthAll]
  · simp [PyData.leavesShort, PyData.leavesShortAll] at c ⊢; exact c
  · simp only [PyData.weight, PyData.weightAll] at d ⊢; omega
def ShwB (x : Str) : Bool := (PyData.str x).showable && decide ((PyData.str x).depth ≤ 3) && PyData.leavesShort 40 (.str x) && decide ((PyData.str x).weight ≤ 500) && decide (x.length ≤ 4)
theorem shw_b {x : Str} (h : ShwB x = true) : Shw (.str x) ∧ x.length ≤ 4 := by
  simp only [ShwB, Bool.and_eq_true, decide_eq_true_eq] at h
  exact ⟨⟨h.1.1.1.1, h.1.1.1.2, h.1.1.2, h.1.2⟩, h.2⟩
end CP

set_option Elab.async false
set_option linter.all false
set_option maxRecDepth 100000
set_option maxHeartbeats 4000000
set_option autoImplicit false
/-! dicts of texts and whole numbers: displays, their pairs walked, list(d) -/
namespace CP
open L2 PySem PyProof.Rows
def oListD : List V → Hp → VK → Prop := fun xs H Q => ∃ (a : Addr) (kvs : List (Key × V)), xs = [.ref a] ∧ Rd H a (.dK kvs) ∧ ∀ p, H p = none → Q (.ref p) (upd H p (.lst (kvs.map fun kv => kV kv.1)))
theorem cr_listD {X : Cx} (h : X.calm = true) : CallR X (.type "list") oListD := call_listD h
section
variable {K : PySem.W.Frag} {σ : L2.St} {H : Hp} {Q : VK} {d : Addr} {kvs : List (Key × V)} {t td tk tv tk2 tv2 : TE} {ts : TS} {D : Ends} {R : It → Hp → Prop} {kv : List (Str × Int)}
theorem r_listD (h : H d = some (.dK (dV kv))) (q : ∀ p H', H p = none → Same H H' → H' p = some (.lst ((kv.map (·.1)).map V.str)) → Q (.ref p) H') : oListD [.ref d] H Q :=
  ⟨d, _, rfl, .inl h, fun p p0 => q p _ p0 (same_new p0) (by rw [upd_same]; unfold dV; rw [List.map_map, List.map_map]; rfl)⟩
theorem r_iItems (q : td σ H fun x H1 => ∃ d o kvs, x = .ref d ∧ H1 d = some (.frz o (.dK kvs)) ∧ R (Iti d o kvs) H1) : iItems td σ H R := q
theorem r_lockS (h : H d = some (.dK kvs)) (q : ∀ od H1, H1 d = some (.frz od (.dK kvs)) → (∀ b o, b ≠ d → H b = some o → H1 b = some o) → (∀ H', Same H1 H' → Same H (upd H' d (.dK kvs))) →
    ts ⟨fun σ' H' => H' d = some (.frz od (.dK kvs)) ∧ D.nx σ' (upd H' d (.dK kvs)), fun v H' => H' d = some (.frz od (.dK kvs)) ∧ D.rt v (upd H' d (.dK kvs)), fun σ' H' => H' d = some (.frz od (.dK kvs)) ∧ D.bk σ' (upd H' d (.dK kvs)), fun σ' H' => H' d = some (.frz od (.dK kvs)) ∧ D.ct σ' (upd H' d (.dK kvs))⟩ σ H1) : tLock ts D σ H :=
  ⟨d, _, h, by trivial, fun od => q od _ upd_same (fun b o ne e => by rw [upd_ne ne]; exact e) fun H' s b o e => by
    by_cases ne : b = d
    · cases ne
      rw [upd_same, ← h, e]
    · rw [upd_ne ne]
      exact s b o (by rw [upd_ne ne]; exact e)⟩
/-- the end of a display -/
def DispEnd (p : Addr) (ps : List (V × V)) (H : Hp) (Q : VK) : Prop := H p = some (.dK []) ∧ ∃ kvs : List (Key × V), ps = kvs.map (fun kv => (kV kv.1, kv.2)) ∧ kvs.length ≤ 15 ∧ Q (.ref p) (upd H p (.dK (mergeK [] kvs)))
theorem r_disp1g (q : ∀ p H1, H p = none → Same H H1 → H1 p = some (.dK []) → tk σ H1 fun x H2 => tv σ H2 fun y H3 => DispEnd p [(x, y)] H3 Q) : tDisp [(tk, tv)] σ H Q := fun p p0 => q p _ p0 (same_new p0) upd_same
theorem r_disp2g (q : ∀ p H1, H p = none → Same H H1 → H1 p = some (.dK []) → tk σ H1 fun x H2 => tv σ H2 fun y H3 => tk2 σ H3 fun x2 H4 => tv2 σ H4 fun y2 H5 => DispEnd p [(x, y), (x2, y2)] H5 Q) : tDisp [(tk, tv), (tk2, tv2)] σ H Q := fun p p0 => q p _ p0 (same_new p0) upd_same
theorem disp_end1 {p : Addr} {k : Str} {n : Int} (h : H p = some (.dK [])) (q : ∀ H', SB p H H' → H' p = some (.dK (dV [(k, n)])) → Q (.ref p) H') : DispEnd p [(.str k, .int n)] H Q :=
  ⟨h, [(Sum.inr k, .int n)], rfl, (by decide : 1 ≤ 15), q _ sb_upd upd_same⟩
theorem disp_end2 {p : Addr} {k k2 : Str} {n n2 : Int} (h : H p = some (.dK [])) (q : ∀ H', SB p H H' → H' p = some (.dK (dV (setD [(k, n)] k2 n2))) → Q (.ref p) H') : DispEnd p [(.str k, .int n), (.str k2, .int n2)] H Q := by
  refine ⟨h, [(Sum.inr k, .int n), (Sum.inr k2, .int n2)], rfl, (by decide : 2 ≤ 15), ?_⟩
  have e : mergeK [] [(Sum.inr k, V.int n), (Sum.inr k2, V.int n2)] = dV (setD [(k, n)] k2 n2) := by
    rw [← dV_put [(k, n)] k2 n2 (by simp)]
    rfl
  rw [e]
  exact q _ sb_upd upd_same
end
section
variable {K : PySem.W.Frag} {od : Obj} {d : Addr} {kvs : List (Key × V)} {g : TG} {tb : TS} {D : Ends} {σ : L2.St} {H : Hp}
/-- for k, v in d.items() -/
theorem for_it (Pv : Nat → L2.St → Hp → Prop) (start : Pv 0 σ H) (stay : ∀ i σ H, i ≤ kvs.length → Pv i σ H → H d = some (.frz od (.dK kvs)))
    (step : ∀ (i : Nat) (k : Key) (v : V) (t : Addr) (σ : L2.St) (H H' : Hp), kvs[i]? = some (k, v) → Pv i σ H → H t = none → Same H H' → H' t = some (.tup [kV k, v]) → g (.ref t) σ H' fun σ2 H2 => tb { D with nx := Pv (i + 1), ct := Pv (i + 1), bk := D.nx } σ2 H2) (fin : ∀ σ H, Pv kvs.length σ H → D.nx σ H) :
    ∃ W : Nat → Nat → L2.St → Hp → Prop, (∃ m, W 0 m σ H) ∧ ∀ i m σ H, W i m σ H →
      ((Iti d od kvs).stop i H ∧ D.nx σ H) ∨ ((Iti d od kvs).go i H ∧ ∃ N : L2.St → Hp → Prop, (∀ σ' H', N σ' H' → ∃ m', m' < m ∧ W (i + 1) m' σ' H') ∧ ∀ x H', (Iti d od kvs).yld i H x H' → g x σ H' fun σ2 H2 => tb { D with nx := N, ct := N, bk := D.nx } σ2 H2) := by
  refine ⟨fun i m σ H => m = kvs.length - i ∧ i ≤ kvs.length ∧ Pv i σ H, ⟨_, rfl, Nat.zero_le _, start⟩, fun i m σ H ⟨em, hi, p⟩ => ?_⟩
  subst em
  have at_ := stay i σ H hi p
  rcases Nat.lt_or_ge i kvs.length with lt | ge
  · refine .inr ⟨⟨at_, lt⟩, Pv (i + 1), fun σ' H' p' => ⟨kvs.length - (i + 1), by omega, rfl, lt, p'⟩, fun x H' y => ?_⟩
    obtain ⟨t, k, v, hk, rfl, t0, rfl⟩ := y
    exact step i k v t σ H _ hk p t0 (same_new t0) upd_same
  · obtain rfl : i = kvs.length := by omega
    exact .inl ⟨⟨at_, Nat.le_refl _⟩, fin σ H p⟩
/-- for k in d -/
theorem for_ke (Pv : Nat → L2.St → Hp → Prop) (start : Pv 0 σ H) (stay : ∀ i σ H, i ≤ kvs.length → Pv i σ H → H d = some (.frz od (.dK kvs)))
    (step : ∀ (i : Nat) (k : Key) (v : V) (σ : L2.St) (H : Hp), kvs[i]? = some (k, v) → Pv i σ H → g (kV k) σ H fun σ2 H2 => tb { D with nx := Pv (i + 1), ct := Pv (i + 1), bk := D.nx } σ2 H2) (fin : ∀ σ H, Pv kvs.length σ H → D.nx σ H) :
    ∃ W : Nat → Nat → L2.St → Hp → Prop, (∃ m, W 0 m σ H) ∧ ∀ i m σ H, W i m σ H →
      ((Itk d od kvs).stop i H ∧ D.nx σ H) ∨ ((Itk d od kvs).go i H ∧ ∃ N : L2.St → Hp → Prop, (∀ σ' H', N σ' H' → ∃ m', m' < m ∧ W (i + 1) m' σ' H') ∧ ∀ x H', (Itk d od kvs).yld i H x H' → g x σ H' fun σ2 H2 => tb { D with nx := N, ct := N, bk := D.nx } σ2 H2) := by
  refine ⟨fun i m σ H => m = kvs.length - i ∧ i ≤ kvs.length ∧ Pv i σ H, ⟨_, rfl, Nat.zero_le _, start⟩, fun i m σ H ⟨em, hi, p⟩ => ?_⟩
  subst em
  have at_ := stay i σ H hi p
  rcases Nat.lt_or_ge i kvs.length with lt | ge
  · refine .inr ⟨⟨at_, lt⟩, Pv (i + 1), fun σ' H' p' => ⟨kvs.length - (i + 1), by omega, rfl, lt, p'⟩, fun x H' y => ?_⟩
    obtain ⟨rfl, k, v, hk, rfl⟩ := y
    exact step i k v σ _ hk p
  · obtain rfl : i = kvs.length := by omega
    exact .inl ⟨⟨at_, Nat.le_refl _⟩, fin σ H p⟩
end
section
variable {β : Type} {a : Addr} {od : Obj} {kvs : List (Key × V)} {g : TG} {tt : TT} {te : TE} {vs : List Nat} {σ : L2.St} {H1 : Hp} {D : Addr} {Qd : Hp → Prop}
/-- [.. for k, v in d.items()] -/
theorem lc_it (R : Hp → V → β → Prop) (ys : List (Option β)) (hD : H1 D = none) (ha : H1 a = some (.frz od (.dK kvs))) (hl : kvs.length = ys.length) (hz : ys.length < sizeLine) (mono : ∀ H H' v b, Same H H' → R H v b → R H' v b)
    (hs : ∀ (i : Nat) (k : Key) (v : V) (o : Option β) (t : Addr) (H H2 : Hp), kvs[i]? = some (k, v) → ys[i]? = some o → Same H1 H → (∃ acc, H D = some (.lst acc)) → Same H H2 → H2 t = some (.tup [kV k, v]) → Turn g tt te vs σ R D H2 (.ref t) o)
    (hd : ∀ H acc, Same H1 H → H D = some (.lst acc) → Paired (R H) acc (ys.filterMap id) → Qd H) :
    ∃ W : Nat → Nat → Hp → Prop, (∃ m, W 0 m (upd H1 D (.lst []))) ∧ ∀ i m H, W i m H →
      ((Iti a od kvs).stop i H ∧ Qd H) ∨ ((Iti a od kvs).go i H ∧ ∃ Nx : Hp → Prop, (∀ H', Nx H' → ∃ m', m' < m ∧ W (i + 1) m' H') ∧ ∀ x H', (Iti a od kvs).yld i H x H' → g x (wipe σ vs) H' fun σ2 H2 => wipe σ2 vs = wipe σ vs ∧ tt σ2 H2 fun b H3 =>
        if b = true then te σ2 H3 fun y H4 => ∃ acc, H4 D = some (.lst acc) ∧ acc.length < sizeLine ∧ Nx (upd H4 D (.lst (acc ++ [y]))) else Nx H3) := by
  refine ⟨fun i m H => m = ys.length - i ∧ i ≤ ys.length ∧ Acc R H1 D ys i H, ⟨ys.length, by simp, Nat.zero_le _, acc_zero hD⟩, ?_⟩
  rintro i m H ⟨rfl, hi, p⟩
  have q := CP.Same.to p.1 ha
  by_cases lt : i < ys.length
  · refine .inr ⟨⟨q, by omega⟩, Acc R H1 D ys (i + 1), fun H' p' => ⟨ys.length - (i + 1), by omega, rfl, lt, p'⟩, fun x H' y => ?_⟩
    obtain ⟨t, k, v, hk, rfl, t0, rfl⟩ := y
    have s2 := same_new (o := .tup [kV k, v]) t0
    have p2 : Acc R H1 D ys i (upd H t (.tup [kV k, v])) := by
      obtain ⟨s1, acc, e, pr⟩ := p
      exact ⟨s1.trans s2, acc, s2 _ _ e, pd_mono pr fun v b => mono _ _ v b (hide_mono s2)⟩
    exact turn_of mono hD hz p2 (List.getElem?_eq_getElem lt) (hs i k v _ t H _ hk (List.getElem?_eq_getElem lt) p.1 (p.2.imp fun _ z => z.1) s2 upd_same)
  · have e : i = ys.length := by omega
    subst e
    obtain ⟨s, acc, e, pr⟩ := acc_end mono p
    exact .inl ⟨⟨q, by omega⟩, hd H acc s e pr⟩
end
end CP

set_option Elab.async false
set_option linter.all false
set_option maxRecDepth 100000
set_option maxHeartbeats 4000000
set_option autoImplicit false
/-! the cell at a place: by falling steps, whatever the order of equal ones -/
namespace CP
open L2 PySem PyProof.Rows
def tl (f : Str → Int) : List Sd → (Str → Int) × Int → (Str → Int) × Int
  | [], a => a
  | r :: L, a => tl f L (fun w => if w = r.1 then min (a.2 / prodF f r.2.2) (prodF f r.2.1 - 1) else a.1 w, a.2 - min (a.2 / prodF f r.2.2) (prodF f r.2.1 - 1) * prodF f r.2.2)
theorem found_tl {f : Str → Int} : ∀ {fs : List Sd} {cs : List (Str × Int)} {m : Int} {g : Str → Int}, (∀ w, g w = (getD cs w).getD 0) →
    (∀ w, (tl f fs (g, m)).1 w = (getD (foundGo f fs (cs, m)).1 w).getD 0) ∧ (tl f fs (g, m)).2 = (foundGo f fs (cs, m)).2
  | [], _, _, _, h => ⟨h, rfl⟩
  | r :: fs, cs, m, g, h => by
    unfold tl foundGo
    refine found_tl (fs := fs) fun w => ?_
    dsimp only
    rw [getD_setD]
    by_cases e : w = r.1
    · rw [if_pos e, if_pos e.symm]
      rfl
    · rw [if_neg e, if_neg fun z => e z.symm]
      exact h w
theorem tl_srow {f : Str → Int} : ∀ {L : List Sd} {a : (Str → Int) × Int}, tl f (L.map srow) a = tl f L a
  | [], _ => rfl
  | r :: L, a => by
    rw [List.map_cons]
    unfold tl
    rw [tl_srow]
    have e1 : prodF f (srow r).2.1 = prodF f r.2.1 := prodF_perm (srt_perm _)
    have e2 : prodF f (srow r).2.2 = prodF f r.2.2 := prodF_perm (srt_perm _)
    rw [e1, e2]
    rfl
def big (f : Str → Int) (r : Sd) : Bool := decide (2 ≤ prodF f r.2.1)
theorem tl_ones {f : Str → Int} : ∀ {L : List Sd} {g : Str → Int} {n : Int}, (L.map (·.1)).Nodup → (∀ r ∈ L, 1 ≤ prodF f r.2.2 ∧ 1 ≤ prodF f r.2.1) → 0 ≤ n → (∀ r ∈ L, g r.1 = 0) → tl f L (g, n) = tl f (L.filter (big f)) (g, n)
  | [], _, _, _, _, _, _ => rfl
  | r :: L, g, n, nd, h, n0, hg => by
    have hr := h r (List.mem_cons_self ..)
    rw [List.map_cons] at nd
    obtain ⟨d1, d2⟩ := List.pairwise_cons.mp nd
    have q0 : 0 ≤ n / prodF f r.2.2 := Int.ediv_nonneg n0 (by omega)
    have q1 : n / prodF f r.2.2 * prodF f r.2.2 ≤ n := Int.ediv_mul_le _ (by omega)
    have q2 : min (n / prodF f r.2.2) (prodF f r.2.1 - 1) ≤ n / prodF f r.2.2 := Int.min_le_left _ _
    have q3 := Int.mul_le_mul_of_nonneg_right q2 (by omega : 0 ≤ prodF f r.2.2)
    by_cases b : big f r = true
    · rw [List.filter_cons_of_pos b]
      unfold tl
      dsimp only
      refine tl_ones d2 (fun s hs => h s (List.mem_cons_of_mem _ hs)) (by omega) fun s hs => ?_
      rw [if_neg fun e => d1 s.1 (List.mem_map.mpr ⟨s, hs, rfl⟩) e.symm]
      exact hg s (List.mem_cons_of_mem _ hs)
    · rw [List.filter_cons_of_neg b]
      have z1 : prodF f r.2.1 = 1 := by
        unfold big at b
        have := of_decide_eq_false (Bool.eq_false_iff.mpr b)
        omega
      rw [← tl_ones d2 (fun s hs => h s (List.mem_cons_of_mem _ hs)) n0 fun s hs => hg s (List.mem_cons_of_mem _ hs)]
      have k0 : min (n / prodF f r.2.2) (prodF f r.2.1 - 1) = 0 := by omega
      conv => lhs; unfold tl
      dsimp only
      rw [k0, Int.zero_mul, Int.sub_zero]
      congr 2
      funext w
      by_cases e : w = r.1
      · rw [if_pos e, e, hg r (List.mem_cons_self ..)]
      · rw [if_neg e]
/-- side by side: one of the two ends before the other begins -/
def Cmp (f : Str → Int) (a b : Sd) : Prop := prodF f b.2.1 * prodF f b.2.2 ≤ prodF f a.2.2 ∨ prodF f a.2.1 * prodF f a.2.2 ≤ prodF f b.2.2
theorem big_pw {f : Str → Int} : ∀ {L : List Sd}, (∀ r ∈ L, 1 ≤ prodF f r.2.2 ∧ 1 ≤ prodF f r.2.1) → L.Pairwise (fun a b => prodF f b.2.2 ≤ prodF f a.2.2) → L.Pairwise (Cmp f) → (L.filter (big f)).Pairwise fun a b => prodF f b.2.2 < prodF f a.2.2
  | [], _, _, _ => .nil
  | a :: L, h, p, c => by
    obtain ⟨p1, p2⟩ := List.pairwise_cons.mp p
    obtain ⟨c1, c2⟩ := List.pairwise_cons.mp c
    have i := big_pw (fun r hr => h r (List.mem_cons_of_mem _ hr)) p2 c2
    by_cases b : big f a = true
    · rw [List.filter_cons_of_pos b]
      refine List.pairwise_cons.mpr ⟨fun x hx => ?_, i⟩
      obtain ⟨hx, bx⟩ := List.mem_filter.mp hx
      have za : 2 ≤ prodF f a.2.1 := of_decide_eq_true b
      have zx : 2 ≤ prodF f x.2.1 := of_decide_eq_true bx
      have ta := (h a (List.mem_cons_self ..)).1
      have tx := (h x (List.mem_cons_of_mem _ hx)).1
      have le := p1 x hx
      have m1 := Int.mul_le_mul_of_nonneg_right za (by omega : 0 ≤ prodF f a.2.2)
      have m2 := Int.mul_le_mul_of_nonneg_right zx (by omega : 0 ≤ prodF f x.2.2)
      rcases c1 x hx with k | k
      · omega
      · omega
    · rw [List.filter_cons_of_neg b]
      exact i
theorem tl_eq {f : Str → Int} {L M : List Sd} {g : Str → Int} {n : Int} (p : L.Perm M) (nd : (L.map (·.1)).Nodup) (h : ∀ r ∈ L, 1 ≤ prodF f r.2.2 ∧ 1 ≤ prodF f r.2.1) (n0 : 0 ≤ n) (hg : ∀ r ∈ L, g r.1 = 0)
    (dl : L.Pairwise fun a b => prodF f b.2.2 ≤ prodF f a.2.2) (dm : M.Pairwise fun a b => prodF f b.2.2 ≤ prodF f a.2.2) (c : L.Pairwise (Cmp f)) : tl f L (g, n) = tl f M (g, n) := by
  have cs : ∀ {a b : Sd}, Cmp f a b → Cmp f b a := fun k => k.symm
  have cm : M.Pairwise (Cmp f) := (p.pairwise_iff cs).mp c
  rw [tl_ones nd h n0 hg, tl_ones ((p.map _).nodup_iff.mp nd) (fun r hr => h r (p.mem_iff.mpr hr)) n0 fun r hr => hg r (p.mem_iff.mpr hr)]
  have e : L.filter (big f) = M.filter (big f) := List.Perm.eq_of_pairwise (le := fun a b => prodF f b.2.2 < prodF f a.2.2) (fun a b _ _ h1 h2 => by omega) (big_pw h dl c) (big_pw (fun r hr => h r (p.mem_iff.mpr hr)) dm cm) (p.filter _)
  rw [e]
theorem tl_spot {f : Str → Int} {c : Sd → Int} : ∀ {L : List Sd} {g : Str → Int}, (L.map (·.1)).Nodup → Gr.Good (fun r : Sd => prodF f r.2.2) (fun r => prodF f r.2.1) L → Gr.Within (fun r : Sd => prodF f r.2.1) c L →
    (tl f L (g, Gr.spot (fun r => prodF f r.2.2) c L)).2 = 0 ∧ (∀ r ∈ L, (tl f L (g, Gr.spot (fun r => prodF f r.2.2) c L)).1 r.1 = c r) ∧ ∀ w, w ∉ L.map (·.1) → (tl f L (g, Gr.spot (fun r => prodF f r.2.2) c L)).1 w = g w
  | [], g, _, _, _ => ⟨rfl, (fun _ h => nomatch h), fun _ _ => rfl⟩
  | a :: L, g, nd, hG, w => by
    obtain ⟨g1, g2, g3, g4⟩ := hG
    have g1 : 1 ≤ prodF f a.2.2 := g1
    have g2 : 1 ≤ prodF f a.2.1 := g2
    have g3 : prodF f a.2.1 = 1 ∨ Gr.topv (fun r : Sd => prodF f r.2.2) (fun r => prodF f r.2.1) L < prodF f a.2.2 := g3
    rw [List.map_cons] at nd
    obtain ⟨d1, d2⟩ := List.pairwise_cons.mp nd
    have w' : Gr.Within (fun r : Sd => prodF f r.2.1) c L := fun x hx => w x (List.mem_cons_of_mem _ hx)
    have wb : 0 ≤ c a ∧ c a < prodF f a.2.1 := w a (List.mem_cons_self ..)
    have p : ∀ x ∈ L, 1 ≤ prodF f x.2.2 := fun x hx => (Gr.good_pos g4 x hx).1
    have a1 := Gr.spot_nonneg (t := fun r : Sd => prodF f r.2.2) p w'
    have b1 := Gr.spot_le (t := fun r : Sd => prodF f r.2.2) p w'
    have k : min (Gr.spot (fun r : Sd => prodF f r.2.2) c (a :: L) / prodF f a.2.2) (prodF f a.2.1 - 1) = c a := by
      rw [Gr.spot_cons, Int.mul_comm, Int.mul_add_ediv_left _ _ (by omega)]
      rcases g3 with z1 | lt
      · have : 0 ≤ Gr.spot (fun r : Sd => prodF f r.2.2) c L / prodF f a.2.2 := Int.ediv_nonneg a1 (by omega)
        omega
      · rw [Int.ediv_eq_zero_of_lt a1 (by omega)]
        omega
    have e : Gr.spot (fun r : Sd => prodF f r.2.2) c (a :: L) - c a * prodF f a.2.2 = Gr.spot (fun r : Sd => prodF f r.2.2) c L := by rw [Gr.spot_cons]; omega
    unfold tl
    dsimp only
    rw [k, e]
    obtain ⟨i1, i2, i3⟩ := tl_spot (g := fun w => if w = a.1 then c a else g w) d2 g4 w'
    refine ⟨i1, fun r hr => ?_, fun w hw => ?_⟩
    · rcases List.mem_cons.mp hr with rfl | hr
      · rw [i3 _ fun z => d1 _ z rfl, if_pos rfl]
      · exact i2 r hr
    · rw [List.map_cons] at hw
      rw [i3 w fun z => hw (List.mem_cons_of_mem _ z), if_neg fun (z : w = a.1) => hw (by rw [z]; exact List.mem_cons_self ..)]
/-- the order of the table, taken from the last side on -/
theorem own_list {rows fs : List Sd} (e : orderM (rows.map srow) = .inl fs) : ∃ gs : List Sd, gs.Perm (rows.filter full1) ∧ gs.map srow = fs ∧ gs.Pairwise Fits := by
  obtain ⟨pw, pm⟩ := order_chain e
  rw [filter_srowH] at pm
  obtain ⟨gs, q, rfl⟩ := perm_map_liftH pm rfl
  exact ⟨gs, q, rfl, (List.pairwise_map.mp pw).imp fun k => fits_srow.mp k⟩
theorem found_rows {rows gs : List Sd} {f : Str → Int} {n : Int} : foundM (rows.map srow) (gs.map srow) f n = if (tl f gs.reverse (fun _ => 0, n)).2 = 0 then some (rows.map fun r => (tl f gs.reverse (fun _ => 0, n)).1 r.1) else none := by
  unfold foundM
  obtain ⟨h1, h2⟩ := found_tl (f := f) (fs := (gs.map srow).reverse) (cs := []) (m := n) (g := fun _ => 0) fun _ => rfl
  rw [← List.map_reverse, tl_srow] at h1 h2
  rw [← List.map_reverse, ← h2, List.map_map]
  have e : (rows.map ((fun r => (getD (foundGo f (gs.reverse.map srow) ([], n)).1 r.1).getD 0) ∘ srow)) = rows.map fun r => (tl f gs.reverse (fun _ => 0, n)).1 r.1 := List.map_congr_left fun r _ => (h1 r.1).symm
  rw [e]
theorem nd_inj : ∀ {rows : List Sd} {r s : Sd}, (rows.map (·.1)).Nodup → s ∈ rows → r ∈ rows → s.1 = r.1 → s = r
  | a :: L, r, s, nd, hs, hr, e => by
    rw [List.map_cons] at nd
    obtain ⟨d1, d2⟩ := List.pairwise_cons.mp nd
    rcases List.mem_cons.mp hs with rfl | xs <;> rcases List.mem_cons.mp hr with rfl | xr
    · rfl
    · exact (d1 _ (List.mem_map.mpr ⟨r, xr, rfl⟩) e).elim
    · exact (d1 _ (List.mem_map.mpr ⟨s, xs, rfl⟩) e.symm).elim
    · exact nd_inj d2 xs xr e
theorem names_full {rows : List Sd} (hR : Rows rows) : ((rows.filter full1).map (·.1)).Nodup := List.Nodup.sublist (List.filter_sublist.map _) hR.dis
/-- a cell's place tells just the cell -/
theorem found_spot {rows fs : List Sd} {f : Str → Int} {cell : List Int} (hR : Rows rows) (e : orderM (rows.map srow) = .inl fs) (hf : ∀ r ∈ rows, ∀ k ∈ r.2.1 ++ r.2.2, 1 ≤ f k) (hc : Cell f rows cell) : foundM (rows.map srow) fs f (spotL f rows cell) = some cell := by
  obtain ⟨gs, q, rfl, pw⟩ := own_list e
  have z : ∀ r ∈ rows, r.2.1 = [] → cf rows cell r = 0 := fun r hr e => by
    have := hc.2 r hr
    rw [e] at this
    have k : prodF f [] = 1 := rfl
    rw [k] at this
    omega
  have pr : gs.reverse.Perm (rows.filter full1) := (List.reverse_perm gs).trans q
  have mem : ∀ r ∈ gs.reverse, r ∈ rows := fun r hr => (List.mem_filter.mp (pr.mem_iff.mp hr)).1
  rw [spot_eq hR.nd hc.1, spotF_filter z]
  unfold spotF
  rw [← Gr.spot_perm pr, found_rows]
  obtain ⟨h1, h2, h3⟩ := tl_spot (f := f) (c := cf rows cell) (L := gs.reverse) (g := fun _ => 0) ((pr.map _).nodup_iff.mpr (names_full hR)) (chain_good pw fun r hr => hf r (mem r (List.mem_reverse.mpr hr))) fun r hr => hc.2 r (mem r hr)
  rw [if_pos h1]
  congr 1
  rw [← cf_map hR.nd hc.1]
  conv => rhs; rw [cf_map hR.nd hc.1]
  have : rows.map (cf rows cell) = cell := cf_map hR.nd hc.1
  conv => rhs; rw [← this]
  refine List.map_congr_left fun r hr => ?_
  rw [this]
  by_cases e : r.2.1 = []
  · rw [z r hr e]
    refine h3 _ fun w => ?_
    obtain ⟨s, hs, es⟩ := List.mem_map.mp w
    have sm := pr.mem_iff.mp hs
    have : s = r := nd_inj hR.dis (mem s hs) hr es
    subst this
    exact of_decide_eq_true (List.mem_filter.mp sm).2 e
  · exact h2 r (pr.mem_iff.mpr (List.mem_filter.mpr ⟨hr, decide_eq_true e⟩))
theorem tl_app {f : Str → Int} : ∀ {L M : List Sd} {a : (Str → Int) × Int}, tl f (L ++ M) a = tl f M (tl f L a)
  | [], _, _ => rfl
  | r :: L, M, a => tl_app (L := L) (M := M)
theorem set_name {rows : List Sd} {g : Str → Int} {i : Nat} {r : Sd} {k : Int} (nd : (rows.map (·.1)).Nodup) (h : rows[i]? = some r) : (rows.map fun s => g s.1).set i k = rows.map fun s => if s.1 = r.1 then k else g s.1 := by
  obtain ⟨hi, e⟩ := List.getElem?_eq_some_iff.mp h
  refine List.ext_getElem (by simp) fun j h1 h2 => ?_
  rw [List.length_map] at h2
  rw [List.getElem_set, List.getElem_map, List.getElem_map]
  by_cases z : i = j
  · subst z
    rw [if_pos rfl, e, if_pos rfl]
  · rw [if_neg z, if_neg]
    intro w
    have l1 : j < (rows.map (·.1)).length := by rw [List.length_map]; exact h2
    have l2 : i < (rows.map (·.1)).length := by rw [List.length_map]; exact hi
    have := (List.getElem_inj (h₀ := l1) (h₁ := l2) nd).mp (by rw [List.getElem_map, List.getElem_map, w, e])
    exact z this.symm
/-- what the law's own walk answers -/
def LawCell (rows : List Sd) (f : Str → Int) (n : Int) (v : V) (H : Hp) : Prop := ∃ L : List Sd, L.Perm (rows.filter full1) ∧ L.Pairwise (fun a b => prodF f b.2.2 ≤ prodF f a.2.2) ∧
  if (tl f L (fun _ => 0, n)).2 = 0 then ∃ q, v = .ref q ∧ H q = some (.lst ((rows.map fun r => (tl f L (fun _ => 0, n)).1 r.1).map V.int)) else v = .non
theorem LawCell.cell {rows fs : List Sd} {f : Str → Int} {n : Int} {v : V} {H : Hp} (h : LawCell rows f n v H) (hR : Rows rows) (e : orderM (rows.map srow) = .inl fs) (hf : ∀ r ∈ rows, ∀ k ∈ r.2.1 ++ r.2.2, 1 ≤ f k) (n0 : 0 ≤ n) : CellAt (rows.map srow) fs f n v H := by
  obtain ⟨L, p, d, h⟩ := h
  obtain ⟨gs, q, rfl, pw⟩ := own_list e
  have pr : gs.reverse.Perm (rows.filter full1) := (List.reverse_perm gs).trans q
  have mem : ∀ r ∈ gs, r ∈ rows := fun r hr => (List.mem_filter.mp (q.mem_iff.mp hr)).1
  have pos : ∀ r ∈ rows, 1 ≤ prodF f r.2.2 ∧ 1 ≤ prodF f r.2.1 := fun r hr => ⟨prodF_one fun k hk => hf r hr k (List.mem_append_right _ hk), prodF_one fun k hk => hf r hr k (List.mem_append_left _ hk)⟩
  have fv : gs.reverse.Pairwise fun a b => prodF f b.2.1 * prodF f b.2.2 ≤ prodF f a.2.2 := by
    rw [List.pairwise_reverse]
    exact pw.imp_of_mem fun {a b} ha hb k => fits_val k (fun x hx => hf b (mem b hb) x (List.mem_append_right _ hx)) (hf a (mem a ha))
  have dg : gs.reverse.Pairwise fun a b => prodF f b.2.2 ≤ prodF f a.2.2 := fv.imp_of_mem fun {a b} ha hb k => by
    have pb := pos b (mem b (List.mem_reverse.mp hb))
    have := Int.mul_le_mul_of_nonneg_right pb.2 (by omega : 0 ≤ prodF f b.2.2)
    omega
  have cg : gs.reverse.Pairwise (Cmp f) := fv.imp fun k => .inl k
  have eq := tl_eq (f := f) (g := fun _ => 0) (n := n) (pr.trans p.symm) ((pr.map _).nodup_iff.mpr (names_full hR)) (fun r hr => pos r (mem r (List.mem_reverse.mp hr))) n0 (fun _ _ => rfl) dg d cg
  rw [← eq] at h
  unfold CellAt
  rw [found_rows]
  by_cases z : (tl f gs.reverse (fun _ => 0, n)).2 = 0
  · rw [if_pos z] at h ⊢
    exact h
  · rw [if_neg z] at h ⊢
    exact h
end CP

set_option Elab.async false
set_option linter.all false
set_option maxRecDepth 100000
set_option maxHeartbeats 4000000
set_option autoImplicit false
/-! told cells shown; values shown; bounds -/
namespace CP
open L2 PySem PyProof.Rows
/-- what repr says of values -/
def kvD (kv : List (Str × Int)) : PyData := .dict (kv.map fun p => (.str p.1, .int p.2))
theorem kv_dp {H : Hp} {a : Addr} {kv : List (Str × Int)} (h : H a = some (.dK (dV kv))) : DpD H (.ref a) (kvD kv) := by
  have e : kvD kv = .dict (((dV kv).map fun p => kD p.1).zip (kv.map fun p => .int p.2)) := by
    unfold kvD dV
    congr 1
    rw [List.map_map]
    clear h
    induction kv with
    | nil => rfl
    | cons p l ih => rw [List.map_cons, List.map_cons, List.map_cons, List.zip_cons_cons, ih]; rfl
  rw [e]
  refine .dct (.inl h) ?_
  unfold dV
  rw [List.map_map]
  clear h e
  induction kv with
  | nil => exact .nil
  | cons p l ih => exact .cons (.int p.2) ih
theorem str_short40 {x : Str} (h : letB x = true) : PyData.leavesShort 40 (.str x) = true := by
  simp only [PyData.leavesShort]
  unfold letB at h
  rw [Bool.and_eq_true] at h
  rw [List.all_eq_true]
  intro c hc
  have := small_low c (of_decide_eq_true (List.all_eq_true.mp h.2 c hc))
  exact decide_eq_true (Nat.lt_trans this (by decide))
theorem kv_show {kv : List (Str × Int)} (h : ∀ p ∈ kv, letB p.1 = true ∧ p.2.natAbs < 10 ^ 30) : PyData.showableKv (kv.map fun p => (.str p.1, .int p.2)) = true ∧ PyData.leavesShortKv 40 (kv.map fun p => (.str p.1, .int p.2)) = true ∧ PyData.weightKv (kv.map fun p => (.str p.1, .int p.2)) ≤ 200 * kv.length ∧ PyData.depthKv (kv.map fun p => (.str p.1, .int p.2)) ≤ 1 := by
  induction kv with
  | nil => exact ⟨by simp [PyData.showableKv], by simp [PyData.leavesShortKv], by simp [PyData.weightKv], by simp [PyData.depthKv]⟩
  | cons p l ih =>
    obtain ⟨i1, i2, i3, i4⟩ := ih fun q hq => h q (List.mem_cons_of_mem _ hq)
    obtain ⟨h1, h2⟩ := h p (List.mem_cons_self ..)
    obtain ⟨⟨a, b, c, _⟩, d⟩ := shw_int h2
    have sh := str_short40 h1
    have zl : p.1.cps.size ≤ 10 := (let_len h1).2
    refine ⟨?_, ?_, ?_, ?_⟩
    · simp only [List.map_cons, PyData.showableKv, i1, a, Bool.and_true]
      simp [PyData.showable]
    · simp only [List.map_cons, PyData.leavesShortKv, sh, c, i2, Bool.and_self]
    · simp only [List.map_cons, PyData.weightKv, List.length_cons]
      have : (PyData.str p.1).weight ≤ 20 := by simp only [PyData.weight]; omega
      omega
    · simp only [List.map_cons, PyData.depthKv]
      have : (PyData.str p.1).depth ≤ 1 := by simp [PyData.depth]
      have : (PyData.int p.2).depth ≤ 1 := by simp [PyData.depth]
      omega
theorem r_reprKvA {K : PySem.W.Frag} {H : Hp} {Q : VK} {a : Addr} {kv : List (Str × Int)} (h : H a = some (.dK (dV kv))) (l : kv.length ≤ 200) (b : ∀ p ∈ kv, letB p.1 = true ∧ p.2.natAbs < 10 ^ 30) (q : Q (.str (kvD kv).shown) H) : rReprA K [.ref a] H Q := by
  obtain ⟨h1, h2, h3, h4⟩ := kv_show b
  refine ⟨.ref a, kvD kv, rfl, .inr (kv_dp h), by unfold kvD; simp only [PyData.showable]; exact h1, by unfold kvD; simp only [PyData.depth]; omega, ?_, q⟩
  have := PyData.shown_le 40 (by decide) (kvD kv) (by unfold kvD; simp only [PyData.leavesShort]; exact h2)
  have w : (kvD kv).weight ≤ 200 * 200 + 1 := by unfold kvD; simp only [PyData.weight]; omega
  have sz : sizeLine = 16777216 := rfl
  omega

structure KvOk (kv : List (Str × Int)) (rows : List Sd) : Prop where
  nd : (kv.map (·.1)).Nodup
  few : kv.length ≤ 150
  each : ∀ p ∈ kv, letB p.1 = true ∧ p.2.natAbs < 10 ^ 30
  val : ∀ k ∈ ltrs rows, (getD kv k).isSome = true ∧ 1 ≤ atD kv k ∧ atD kv k < 2 ^ 10
theorem KvOk.small {kv : List (Str × Int)} {rows : List Sd} (h : KvOk kv rows) : Small kv (ltrs rows) := fun k hk => ⟨(h.val k hk).1, (h.val k hk).2.1, by have := (h.val k hk).2.2; omega⟩
theorem KvOk.f1 {kv : List (Str × Int)} {rows : List Sd} (h : KvOk kv rows) : ∀ r ∈ rows, ∀ k ∈ r.2.1 ++ r.2.2, 1 ≤ atD kv k := h.small.f1
theorem KvOk.size {kv : List (Str × Int)} {rows : List Sd} (h : KvOk kv rows) {r : Sd} (hr : r ∈ rows) (l : r.2.1.length ≤ 3) : 1 ≤ prodF (atD kv) r.2.1 ∧ prodF (atD kv) r.2.1 ≤ 2 ^ 30 := by
  have b : ∀ k ∈ r.2.1, 1 ≤ atD kv k ∧ atD kv k < 2 ^ 10 := fun k hk => (h.val k (ltrs_size hr k hk)).2
  exact ⟨(prodF_le b).1, Int.le_trans (prodF_le b).2 (two_leH (by omega))⟩
theorem KvOk.step {kv : List (Str × Int)} {rows : List Sd} (h : KvOk kv rows) {r : Sd} (hr : r ∈ rows) (l : r.2.2.length ≤ 6) : 1 ≤ prodF (atD kv) r.2.2 ∧ prodF (atD kv) r.2.2 ≤ 2 ^ 60 := by
  have b : ∀ k ∈ r.2.2, 1 ≤ atD kv k ∧ atD kv k < 2 ^ 10 := fun k hk => (h.val k (ltrs_step hr k hk)).2
  exact ⟨(prodF_le b).1, Int.le_trans (prodF_le b).2 (two_leH (by omega))⟩
/-- a cell below the sizes -/
theorem cell_by {f : Str → Int} {rows : List Sd} {cell : List Int} (nd : rows.Nodup) (l : cell.length = rows.length) (h : ∀ (i : Nat) (r : Sd) (k : Int), rows[i]? = some r → cell[i]? = some k → 0 ≤ k ∧ k < prodF f r.2.1) : Cell f rows cell := by
  refine ⟨l, fun r hr => ?_⟩
  obtain ⟨i, hi, rfl⟩ := List.getElem_of_mem hr
  have e : rows.idxOf rows[i] = i := idx_get nd hi
  unfold cf
  rw [e, List.getElem?_eq_getElem (by omega)]
  exact h i _ _ (List.getElem?_eq_getElem hi) (List.getElem?_eq_getElem (by omega))
theorem spot_low {f : Str → Int} {B C : Int} (B0 : 0 ≤ B) (C0 : 0 ≤ C) : ∀ {rows : List Sd} {cell : List Int}, (∀ r ∈ rows, 0 ≤ prodF f r.2.2 ∧ prodF f r.2.2 ≤ C) → (∀ k ∈ cell, 0 ≤ k ∧ k ≤ B) → 0 ≤ spotL f rows cell ∧ spotL f rows cell ≤ rows.length * (B * C)
  | [], _, _, _ => ⟨by simp [spotL], by simp [spotL]⟩
  | r :: rows, [], _, _ => by
    have := Int.mul_nonneg (Int.natCast_nonneg (r :: rows).length) (Int.mul_nonneg B0 C0)
    exact ⟨by simp [spotL], by simpa [spotL] using this⟩
  | r :: rows, k :: cell, h, g => by
    obtain ⟨i1, i2⟩ := spot_low B0 C0 (rows := rows) (cell := cell) (fun x hx => h x (List.mem_cons_of_mem _ hx)) fun x hx => g x (List.mem_cons_of_mem _ hx)
    have hr := h r (List.mem_cons_self ..)
    have hk := g k (List.mem_cons_self ..)
    have a := Int.mul_nonneg hk.1 hr.1
    have b := Int.mul_le_mul hk.2 hr.2 hr.1 B0
    have e : spotL f (r :: rows) (k :: cell) = k * prodF f r.2.2 + spotL f rows cell := by
      unfold spotL
      rw [List.zip_cons_cons, List.map_cons, List.sum_cons]
    rw [e, List.length_cons]
    push_cast
    rw [Int.add_mul, Int.one_mul]
    omega
theorem tl_low {f : Str → Int} {B : Int} : ∀ {L : List Sd} {g : Str → Int} {n : Int}, (∀ r ∈ L, 1 ≤ prodF f r.2.2 ∧ 1 ≤ prodF f r.2.1 ∧ prodF f r.2.1 ≤ B) → 0 ≤ n → (∀ w, 0 ≤ g w ∧ g w ≤ B) → ∀ w, 0 ≤ (tl f L (g, n)).1 w ∧ (tl f L (g, n)).1 w ≤ B
  | [], _, _, _, _, h, w => h w
  | r :: L, g, n, h, n0, hg, w => by
    obtain ⟨t1, z1, z2⟩ := h r (List.mem_cons_self ..)
    have q0 : 0 ≤ n / prodF f r.2.2 := Int.ediv_nonneg n0 (by omega)
    have q1 : n / prodF f r.2.2 * prodF f r.2.2 ≤ n := Int.ediv_mul_le _ (by omega)
    have q2 : min (n / prodF f r.2.2) (prodF f r.2.1 - 1) ≤ n / prodF f r.2.2 := Int.min_le_left _ _
    have q3 := Int.mul_le_mul_of_nonneg_right q2 (by omega : 0 ≤ prodF f r.2.2)
    unfold tl
    refine tl_low (fun s hs => h s (List.mem_cons_of_mem _ hs)) (by dsimp only; omega) (fun v => ?_) w
    dsimp only
    split
    · omega
    · exact hg v
/-- what is told, as data -/
def ToldAt (oc : Option (List Int)) (v : V) (H : Hp) : Prop := match oc with
  | some c => ∃ q, v = .ref q ∧ H q = some (.lst (c.map V.int))
  | none => v = .non
def ToldOk (oc : Option (List Int)) : Prop := ∀ c, oc = some c → c.length ≤ 20 ∧ ∀ k ∈ c, 0 ≤ k ∧ k ≤ 2 ^ 30
def toldD : Option (List Int) → PyData
  | some c => .list (c.map PyData.int)
  | none => .none
theorem LawCell.told {rows : List Sd} {f : Str → Int} {n : Int} {v : V} {H : Hp} (h : LawCell rows f n v H) (few : rows.length ≤ 20) (n0 : 0 ≤ n) (b : ∀ r ∈ rows, 1 ≤ prodF f r.2.2 ∧ 1 ≤ prodF f r.2.1 ∧ prodF f r.2.1 ≤ 2 ^ 30) : ∃ oc, ToldAt oc v H ∧ ToldOk oc := by
  obtain ⟨L, p, d, h⟩ := h
  have bl : ∀ r ∈ L, 1 ≤ prodF f r.2.2 ∧ 1 ≤ prodF f r.2.1 ∧ prodF f r.2.1 ≤ 2 ^ 30 := fun r hr => b r (List.mem_filter.mp (p.mem_iff.mp hr)).1
  by_cases z : (tl f L (fun _ => 0, n)).2 = 0
  · rw [if_pos z] at h
    refine ⟨some _, h, fun c e => ?_⟩
    cases e
    refine ⟨by rw [List.length_map]; exact few, fun k hk => ?_⟩
    obtain ⟨r, _, rfl⟩ := List.mem_map.mp hk
    exact tl_low bl n0 (fun _ => ⟨by decide, by decide⟩) r.1
  · rw [if_neg z] at h
    exact ⟨none, h, fun c e => by cases e⟩
theorem told_cell {rows fs : List Sd} {f : Str → Int} {n : Int} {v : V} {H : Hp} : CellAt rows fs f n v H ↔ ToldAt (foundM rows fs f n) v H := by
  unfold CellAt ToldAt
  cases foundM rows fs f n <;> exact Iff.rfl
theorem told_same {oc od : Option (List Int)} {v : V} {H : Hp} (h : ToldAt oc v H) (g : ToldAt od v H) : oc = od := by
  cases oc <;> cases od
  · rfl
  · obtain ⟨q, e, _⟩ := g
    unfold ToldAt at h
    rw [h] at e
    cases e
  · obtain ⟨q, e, _⟩ := h
    unfold ToldAt at g
    rw [g] at e
    cases e
  · obtain ⟨q, rfl, e1⟩ := h
    obtain ⟨q', e, e2⟩ := g
    cases e
    rw [e1] at e2
    have := List.map_inj_right (fun a b (e : V.int a = V.int b) => by cases e; rfl) |>.mp (HO.lst.inj (Option.some.inj e2))
    rw [this]
theorem ints_show : ∀ {c : List Int}, (∀ k ∈ c, 0 ≤ k ∧ k ≤ 2 ^ 30) → PyData.showableAll (c.map PyData.int) = true ∧ PyData.hasDictAll (c.map PyData.int) = false ∧ PyData.leavesShortAll 40 (c.map PyData.int) = true ∧ PyData.weightAll (c.map PyData.int) ≤ 120 * c.length ∧ PyData.depthAll (c.map PyData.int) ≤ 3
  | [], _ => ⟨by simp [PyData.showableAll], by simp [PyData.hasDictAll], by simp [PyData.leavesShortAll], by simp [PyData.weightAll], by simp [PyData.depthAll]⟩
  | k :: c, h => by
    obtain ⟨i1, i2, i3, i4, i5⟩ := ints_show (c := c) fun x hx => h x (List.mem_cons_of_mem _ hx)
    have hk := h k (List.mem_cons_self ..)
    obtain ⟨⟨a, e, d, _⟩, w⟩ := shw_int (i := k) (by have : (2 : Nat) ^ 30 < 10 ^ 30 := by decide +kernel
                                                     have : k.natAbs ≤ 2 ^ 30 := by omega
                                                     omega)
    refine ⟨?_, ?_, ?_, ?_, ?_⟩
    · simp only [List.map_cons, PyData.showableAll, i1, a, Bool.and_true]
    · simp only [List.map_cons, PyData.hasDictAll, PyData.hasDict, i2, Bool.or_self]
    · simp only [List.map_cons, PyData.leavesShortAll, d, i3, Bool.and_self]
    · simp only [List.map_cons, PyData.weightAll, List.length_cons]
      omega
    · simp only [List.map_cons, PyData.depthAll]
      omega
theorem r_reprTold {K : PySem.W.Frag} {H : Hp} {Q : VK} {v : V} {oc : Option (List Int)} (h : ToldAt oc v H) (ok : ToldOk oc) (q : Q (.str (toldD oc).shown) H) : rReprA K [v] H Q := by
  have sz : sizeLine = 16777216 := rfl
  cases oc with
  | none =>
    cases h
    refine ⟨_, .none, rfl, .inl ⟨.non, by simp [PyData.hasDict]⟩, by simp [PyData.showable], by simp [PyData.depth], ?_, q⟩
    rw [show (PyData.none).shown.length = 4 by decide +kernel]
    omega
  | some c =>
    obtain ⟨p, rfl, hp⟩ := h
    obtain ⟨l, b⟩ := ok c rfl
    obtain ⟨h1, h2, h3, h4, h5⟩ := ints_show b
    refine ⟨_, .list (c.map PyData.int), rfl, .inl ⟨.lst (.of hp) (ints_dpA c), by simp only [PyData.hasDict]; exact h2⟩, by simp only [PyData.showable]; exact h1, by simp only [PyData.depth]; omega, ?_, q⟩
    have := PyData.shown_le 40 (by decide) (.list (c.map PyData.int)) (by simp only [PyData.leavesShort]; exact h3)
    have w : (PyData.list (c.map PyData.int)).weight ≤ 120 * 20 + 1 := by simp only [PyData.weight]; omega
    omega
end CP

set_option Elab.async false
set_option linter.all false
set_option maxRecDepth 100000
set_option maxHeartbeats 4000000
set_option autoImplicit false
/-! d.update(e), two flat dicts -/
namespace CP
open PySem PySem.Spec PyProof.Rows L2
def mergeK (kvs more : List (Key × V)) : List (Key × V) := more.foldl (fun acc p => putK acc p.1 p.2) kvs
theorem kv_merge {kvs more : List (Key × V)} {vs ws : List (Key × Value)} (r : KV kvs vs) (q : KV more ws) : KV (mergeK kvs more) (merged vs ws) := by
  unfold mergeK merged
  unfold KV at q
  induction q generalizing kvs vs with
  | nil => exact r
  | @cons a b as bs h t ih =>
    rw [List.foldl_cons, List.foldl_cons]
    obtain ⟨e, rel⟩ := h
    have p := r.put a.1 rel
    rw [← e]
    exact ih p
theorem merge_len (kvs more : List (Key × V)) : (mergeK kvs more).length ≤ kvs.length + more.length := by
  unfold mergeK
  induction more generalizing kvs with
  | nil => exact Nat.le_refl _
  | cons p more ih =>
    rw [List.foldl_cons, List.length_cons]
    have := ih (putK kvs p.1 p.2)
    have := length_putK kvs p.1 p.2
    omega
def rDUpd : V → List V → Hp → VK → Prop := fun x xs H Q => ∃ (a b : Addr) (kvs more : List (Key × V)), x = .ref a ∧ xs = [.ref b] ∧ a ≠ b ∧ H a = some (.dK kvs) ∧ H b = some (.dK more) ∧ kvs.length + more.length ≤ sizeLine ∧ Q .non (upd H a (.dK (mergeK kvs more)))
theorem mtd_update {X : Cx} : MtR X "dict.update" rDUpd := by
  intro pins s σ H x xs v us Q I rx rv h
  obtain ⟨a, b, kvs, more, rfl, rfl, ne, ea, eb, sz, q⟩ := h
  cases rx
  obtain ⟨u, rfl, ru⟩ := rv.one
  cases ru
  obtain ⟨z, hd, vs, rel, dd⟩ := dk_of I.hok ea
  obtain ⟨z2, hd2, ws, rel2, dd2⟩ := dk_of I.hok eb
  refine call_meetsIn PySem.F.slot_dict_update dd.typeIs PySem.F.entry_dict_update (PySem.F.args_dict_update_2 _ _) (meets_dict_update (mixKind X.prog X.w) a b ne hd2) ⟨vs, ws, dd, dd2, by rw [← rel.length, ← rel2.length]; exact sz, fun h' dd' _ hs => ?_⟩
  have he : ∃ q, h'.get? a = some q := let ⟨q, _, _, hq, _⟩ := dd'; ⟨q, hq⟩
  exact ⟨.non, _, d_write I (by rw [ea]; exact True.intro) hs he (dk_new (Nat.le_trans (merge_len _ _) sz) hd (kv_merge rel rel2) dd'), rfl, q⟩
theorem r_dupd {H : Hp} {Q : VK} {a b : Addr} {kvs more : List (Key × V)} (ne : a ≠ b) (ea : H a = some (.dK kvs)) (eb : H b = some (.dK more)) (sz : kvs.length + more.length ≤ sizeLine) (q : ∀ H', SB a H H' → H' a = some (.dK (mergeK kvs more)) → Q .non H') : rDUpd (.ref a) [.ref b] H Q :=
  ⟨a, b, kvs, more, rfl, rfl, ne, ea, eb, sz, q _ sb_upd upd_same⟩
/-- texts to ints -/
def mergeD (l m : List (Str × Int)) : List (Str × Int) := m.foldl (fun acc p => setD acc p.1 p.2) l
theorem mergeD_nd : ∀ {m l : List (Str × Int)}, (l.map (·.1)).Nodup → ((mergeD l m).map (·.1)).Nodup
  | [], _, h => h
  | p :: m, l, h => mergeD_nd (m := m) (setD_nd h)
theorem merge_dV : ∀ {m l : List (Str × Int)}, (l.map (·.1)).Nodup → mergeK (dV l) (dV m) = dV (mergeD l m)
  | [], _, _ => rfl
  | p :: m, l, h => by
    have i := merge_dV (m := m) (setD_nd (k := p.1) (n := p.2) h)
    show mergeK (putK (dV l) (Sum.inr p.1) (V.int p.2)) (dV m) = _
    rw [dV_put _ _ _ h, i]
    rfl
theorem mergeD_len (l m : List (Str × Int)) : (mergeD l m).length ≤ l.length + m.length := by
  unfold mergeD
  induction m generalizing l with
  | nil => exact Nat.le_refl _
  | cons p m ih =>
    rw [List.foldl_cons, List.length_cons]
    have := ih (setD l p.1 p.2)
    have := setD_len l p.1 p.2
    omega
theorem getD_out : ∀ {m : List (Str × Int)} {k : Str}, k ∉ m.map (·.1) → getD m k = none
  | [], _, _ => rfl
  | p :: m, k, h => by
    rw [List.map_cons, List.mem_cons, not_or] at h
    show (if p.1 = k then some p.2 else getD m k) = none
    rw [if_neg fun e => h.1 e.symm]
    exact getD_out h.2
theorem getD_merge : ∀ {m l : List (Str × Int)} {k : Str}, (m.map (·.1)).Nodup → getD (mergeD l m) k = (getD m k).orElse fun _ => getD l k
  | [], l, k, _ => rfl
  | p :: m, l, k, nd => by
    rw [List.map_cons] at nd
    obtain ⟨d1, d2⟩ := List.pairwise_cons.mp nd
    show getD (mergeD (setD l p.1 p.2) m) k = _
    rw [getD_merge d2, getD_setD]
    by_cases e : p.1 = k
    · rw [if_pos e]
      have n0 : getD m k = none := getD_out fun h => d1 k h e
      rw [n0]
      subst e
      simp [getD]
    · rw [if_neg e]
      congr 1
      simp [getD, e]
end CP

set_option Elab.async false
set_option linter.all false
set_option maxRecDepth 100000
set_option maxHeartbeats 4000000
set_option autoImplicit false
/-! values that are drawn, widened, raised -/
namespace CP
open L2 PySem PyProof.Rows
theorem setD_all {P : Str × Int → Prop} : ∀ {l : List (Str × Int)} {k : Str} {n : Int}, (∀ p ∈ l, P p) → P (k, n) → ∀ p ∈ setD l k n, P p
  | [], k, n, _, h, p, hp => by
    rw [show setD [] k n = [(k, n)] from rfl, List.mem_singleton] at hp
    rw [hp]; exact h
  | q :: l, k, n, a, h, p, hp => by
    unfold setD at hp
    split at hp
    · rename_i e
      rcases List.mem_cons.mp hp with z | z
      · rw [z]
        first
        | exact h
        | (rw [e]; exact h)
      · exact a p (List.mem_cons_of_mem _ z)
    · rcases List.mem_cons.mp hp with z | z
      · rw [z]; exact a q (List.mem_cons_self ..)
      · exact setD_all (fun p hp => a p (List.mem_cons_of_mem _ hp)) h p z
theorem mergeD_all {P : Str × Int → Prop} : ∀ {m l : List (Str × Int)}, (∀ p ∈ l, P p) → (∀ p ∈ m, P p) → ∀ p ∈ mergeD l m, P p
  | [], _, a, _ => a
  | q :: m, l, a, b => mergeD_all (m := m) (setD_all a (b q (List.mem_cons_self ..))) fun p hp => b p (List.mem_cons_of_mem _ hp)
structure KvB (kv : List (Str × Int)) (rows : List Sd) (more : Nat) (done : List Str) : Prop where
  nd : (kv.map (·.1)).Nodup
  few : kv.length ≤ 120 + more
  each : ∀ p ∈ kv, letB p.1 = true ∧ p.2.natAbs ≤ 2000
  val : ∀ k ∈ sizesM rows, (getD kv k).isSome = true ∧ 1 ≤ atD kv k ∧ atD kv k ≤ 1001 ∧ (k ∉ done → atD kv k ≤ 1000)
theorem KvB.ok {kv : List (Str × Int)} {rows : List Sd} {n : Nat} {done : List Str} (h : KvB kv rows n done) (l : n ≤ 30) : KvOk kv rows := by
  have b : (2000 : Nat) < 10 ^ 30 := by decide +kernel
  refine ⟨h.nd, by have := h.few; omega, fun p hp => ⟨(h.each p hp).1, Nat.lt_of_le_of_lt (h.each p hp).2 b⟩, fun k hk => ?_⟩
  obtain ⟨a, b, c, _⟩ := h.val k (mem_ltrs.mpr hk)
  exact ⟨a, b, by omega⟩
theorem atD_set {l : List (Str × Int)} {k j : Str} {n : Int} : atD (setD l k n) j = if k = j then n else atD l j := by
  unfold atD
  rw [getD_setD]
  by_cases e : k = j
  · rw [if_pos e, if_pos e]; rfl
  · rw [if_neg e, if_neg e]
/-- another name gets a value -/
theorem KvB.other {kv : List (Str × Int)} {rows : List Sd} {m : Nat} {done : List Str} (h : KvB kv rows m done) {k : Str} {n : Int} (hk : k ∉ sizesM rows) (lt : letB k = true) (b : n.natAbs ≤ 2000) : KvB (setD kv k n) rows (m + 1) done := by
  refine ⟨setD_nd h.nd, by have := setD_len kv k n; have := h.few; omega, setD_all h.each ⟨lt, b⟩, fun j hj => ?_⟩
  have ne : k ≠ j := fun e => hk (e ▸ hj)
  rw [getD_setD, atD_set, if_neg ne, if_neg ne]
  exact h.val j hj
/-- one of the sides' values is raised -/
theorem KvB.inc {kv : List (Str × Int)} {rows : List Sd} {m : Nat} {done : List Str} (h : KvB kv rows m done) {k : Str} (hk : k ∈ sizesM rows) (lt : letB k = true) (nd : k ∉ done) : KvB (setD kv k (atD kv k + 1)) rows (m + 1) (done ++ [k]) := by
  obtain ⟨a, b, c, e⟩ := h.val k hk
  have e := e nd
  refine ⟨setD_nd h.nd, by have := setD_len kv k (atD kv k + 1); have := h.few; omega, setD_all h.each ⟨lt, by omega⟩, fun j hj => ?_⟩
  rw [getD_setD, atD_set]
  by_cases z : k = j
  · rw [if_pos z, if_pos z]
    exact ⟨rfl, by omega, by omega, fun w => absurd (List.mem_append_right _ (by rw [z]; exact List.mem_singleton.mpr rfl)) w⟩
  · rw [if_neg z, if_neg z]
    obtain ⟨a, b, c, d⟩ := h.val j hj
    exact ⟨a, b, c, fun w => d fun y => w (List.mem_append_left _ y)⟩
theorem KvB.start {kv : List (Str × Int)} {rows : List Sd} {m : Int} (hR : Rows rows) (kn : (kv.map (·.1)).Nodup) (km : ∀ k, k ∈ kv.map (·.1) ↔ k ∈ sizesM rows) (kb : ∀ u ∈ kv, 1 ≤ u.2 ∧ u.2 ≤ m) (m1 : m ≤ 1000) (l : (sizesM rows).length ≤ 100) : KvB (mergeD [("aa", -5)] kv) rows 0 [] := by
  have kl : kv.length ≤ 100 := by
    have h1 := List.Nodup.length_le_of_subset kn (fun k hk => (km k).mp hk)
    rw [List.length_map] at h1
    omega
  refine ⟨mergeD_nd (by simp), by have := mergeD_len [("aa", -5)] kv; simp only [List.length_cons, List.length_nil] at this; omega, mergeD_all (fun p hp => ?_) (fun p hp => ⟨sizes_let hR p.1 ((km p.1).mp (List.mem_map.mpr ⟨p, hp, rfl⟩)), by have := kb p hp; omega⟩), fun k hk => ?_⟩
  · rw [List.mem_singleton] at hp
    rw [hp]
    exact ⟨by decide +kernel, by decide⟩
  · obtain ⟨u, hu, e⟩ := List.mem_map.mp ((km k).mpr hk)
    have g := getD_mem kn hu
    have b := kb u hu
    subst e
    unfold atD
    rw [getD_merge kn, g]
    exact ⟨rfl, b.1, by show u.2 ≤ 1001; omega, fun _ => by show u.2 ≤ 1000; omega⟩
end CP

namespace CP
open PySem L2
def top (i : Nat) : Stmt := PySem.Challenge.pw_cellplaces_k54_whole_cells_told_back.main.body.getD i (.Pass ⟨0, 0, 0, 0⟩)
abbrev s_is_whole : Stmt := top 10
abbrev s_is_count : Stmt := top 11
abbrev s_is_letter : Stmt := top 12
abbrev s_are_values : Stmt := top 13
abbrev s_check_sizes : Stmt := top 15
abbrev s_are_letters : Stmt := top 17
abbrev s_are_named : Stmt := top 18
abbrev s_are_sides : Stmt := top 19
abbrev s_valued : Stmt := top 20
abbrev s_rest_of : Stmt := top 21
abbrev s_Plain___init : Stmt := inClass (top 22) 0
abbrev s_Plain_sizes : Stmt := inClass (top 22) 2
abbrev s_Plain___eq : Stmt := inClass (top 22) 5
abbrev s_check_table : Stmt := top 23
abbrev s_is_ahead : Stmt := top 24
abbrev s_ordered : Stmt := top 25
abbrev s_check_own : Stmt := top 26
abbrev s_found_at : Stmt := top 27
abbrev s_cell_of : Stmt := top 28
abbrev s_law_purse : Stmt := top 30
abbrev s_law_mixed : Stmt := top 31
abbrev s_law_draw : Stmt := top 32
abbrev s_law_one_of : Stmt := top 33
abbrev s_law_shuffled : Stmt := top 34
abbrev s_law_letters : Stmt := top 35
abbrev s_law_names : Stmt := top 36
abbrev s_law_chain : Stmt := top 37
abbrev s_law_times : Stmt := top 38
abbrev s_law_used : Stmt := top 39
abbrev s_law_sizes : Stmt := top 40
abbrev s_law_spot : Stmt := top 41
abbrev s_law_fits : Stmt := top 42
abbrev s_law_chained : Stmt := top 43
abbrev s_law_cell : Stmt := top 44
abbrev s_law_right : Stmt := top 45
abbrev s_law : Stmt := top 46
theorem sc_is_whole : FnScope ["value"] ["value"] (defScope s_is_whole) := ⟨rfl, rfl, rfl, by decide +kernel, rfl, by decide +kernel, by decide +kernel⟩
theorem sc_is_count : FnScope ["value"] ["value"] (defScope s_is_count) := ⟨rfl, rfl, rfl, by decide +kernel, rfl, by decide +kernel, by decide +kernel⟩
theorem sc_is_letter : FnScope ["value", "sign"] ["value"] (defScope s_is_letter) := ⟨rfl, rfl, rfl, by decide +kernel, rfl, by decide +kernel, by decide +kernel⟩
theorem sc_are_values : FnScope ["value", "name"] ["value"] (defScope s_are_values) := ⟨rfl, rfl, rfl, by decide +kernel, rfl, by decide +kernel, by decide +kernel⟩
theorem sc_check_sizes : FnScope ["names", "values", "name"] ["names", "values"] (defScope s_check_sizes) := ⟨rfl, rfl, rfl, by decide +kernel, rfl, by decide +kernel, by decide +kernel⟩
theorem sc_are_letters : FnScope ["value", "one"] ["value"] (defScope s_are_letters) := ⟨rfl, rfl, rfl, by decide +kernel, rfl, by decide +kernel, by decide +kernel⟩
theorem sc_are_named : FnScope ["value", "names", "side", "part"] ["value"] (defScope s_are_named) := ⟨rfl, rfl, rfl, by decide +kernel, rfl, by decide +kernel, by decide +kernel⟩
theorem sc_are_sides : FnScope ["value", "parts", "side", "names", "part", "one"] ["value", "parts"] (defScope s_are_sides) := ⟨rfl, rfl, rfl, by decide +kernel, rfl, by decide +kernel, by decide +kernel⟩
theorem sc_valued : FnScope ["letters", "values", "found", "name"] ["letters", "values"] (defScope s_valued) := ⟨rfl, rfl, rfl, by decide +kernel, rfl, by decide +kernel, by decide +kernel⟩
theorem sc_rest_of : FnScope ["letters", "others", "left", "name"] ["letters", "others"] (defScope s_rest_of) := ⟨rfl, rfl, rfl, by decide +kernel, rfl, by decide +kernel, by decide +kernel⟩
theorem sc_Plain___init : FnScope ["self", "sides", "name", "size", "step"] ["self", "sides"] (defScope s_Plain___init) := ⟨rfl, rfl, rfl, by decide +kernel, rfl, by decide +kernel, by decide +kernel⟩
theorem sc_Plain_sizes : FnScope ["self", "found", "name", "size", "step", "one"] ["self"] (defScope s_Plain_sizes) := ⟨rfl, rfl, rfl, by decide +kernel, rfl, by decide +kernel, by decide +kernel⟩
theorem sc_Plain___eq : FnScope ["self", "other"] ["self", "other"] (defScope s_Plain___eq) := ⟨rfl, rfl, rfl, by decide +kernel, rfl, by decide +kernel, by decide +kernel⟩
theorem sc_check_table : FnScope ["table"] ["table"] (defScope s_check_table) := ⟨rfl, rfl, rfl, by decide +kernel, rfl, by decide +kernel, by decide +kernel⟩
theorem sc_is_ahead : FnScope ["one", "other"] ["one", "other"] (defScope s_is_ahead) := ⟨rfl, rfl, rfl, by decide +kernel, rfl, by decide +kernel, by decide +kernel⟩
theorem sc_ordered : FnScope ["table", "found", "side", "at", "one", "wrong"] ["table"] (defScope s_ordered) := ⟨rfl, rfl, rfl, by decide +kernel, rfl, by decide +kernel, by decide +kernel⟩
theorem sc_check_own : FnScope ["table", "found"] ["table"] (defScope s_check_own) := ⟨rfl, rfl, rfl, by decide +kernel, rfl, by decide +kernel, by decide +kernel⟩
theorem sc_found_at : FnScope ["table", "order", "values", "place", "cell", "name", "size", "step", "side"] ["table", "order", "values", "place"] (defScope s_found_at) := ⟨rfl, rfl, rfl, by decide +kernel, rfl, by decide +kernel, by decide +kernel⟩
theorem sc_cell_of : FnScope ["table", "values", "place"] ["table", "values", "place"] (defScope s_cell_of) := ⟨rfl, rfl, rfl, by decide +kernel, rfl, by decide +kernel, by decide +kernel⟩
theorem sc_law_purse : FnScope ["_law_script", "_law_at", "_law_cell_here"] ["_law_script", "_law_at"] (defScope s_law_purse) := ⟨rfl, rfl, rfl, by decide +kernel, rfl, by decide +kernel, by decide +kernel⟩
theorem sc_law_mixed : FnScope ["_law_seed", "_law_step", "_law_found"] ["_law_seed", "_law_step"] (defScope s_law_mixed) := ⟨rfl, rfl, rfl, by decide +kernel, rfl, by decide +kernel, by decide +kernel⟩
theorem sc_law_draw : FnScope ["_law_purse_here", "_law_many", "_law_drawn", "_law_found", "_law_piece"] ["_law_purse_here", "_law_many"] (defScope s_law_draw) := ⟨rfl, rfl, rfl, by decide +kernel, rfl, by decide +kernel, by decide +kernel⟩
theorem sc_law_one_of : FnScope ["_law_purse_here", "_law_some"] ["_law_purse_here", "_law_some"] (defScope s_law_one_of) := ⟨rfl, rfl, rfl, by decide +kernel, rfl, by decide +kernel, by decide +kernel⟩
theorem sc_law_shuffled : FnScope ["_law_purse_here", "_law_some", "_law_found", "_law_item"] ["_law_purse_here", "_law_some"] (defScope s_law_shuffled) := ⟨rfl, rfl, rfl, by decide +kernel, rfl, by decide +kernel, by decide +kernel⟩
theorem sc_law_letters : FnScope ["_law_purse_here", "_law_most", "_law_found", "_law_turn"] ["_law_purse_here", "_law_most"] (defScope s_law_letters) := ⟨rfl, rfl, rfl, by decide +kernel, rfl, by decide +kernel, by decide +kernel⟩
theorem sc_law_names : FnScope ["_law_purse_here", "_law_many"] ["_law_purse_here", "_law_many"] (defScope s_law_names) := ⟨rfl, rfl, rfl, by decide +kernel, rfl, by decide +kernel, by decide +kernel⟩
theorem sc_law_chain : FnScope ["_law_purse_here", "_law_many", "_law_often", "_law_rows", "_law_due", "_law_word", "_law_extra", "_law_span", "_law_step"] ["_law_purse_here", "_law_many", "_law_often"] (defScope s_law_chain) := ⟨rfl, rfl, rfl, by decide +kernel, rfl, by decide +kernel, by decide +kernel⟩
theorem sc_law_times : FnScope ["_law_product", "_law_sizes_here", "_law_found", "_law_one"] ["_law_product", "_law_sizes_here"] (defScope s_law_times) := ⟨rfl, rfl, rfl, by decide +kernel, rfl, by decide +kernel, by decide +kernel⟩
theorem sc_law_used : FnScope ["_law_rows", "_law_found", "_law_word", "_law_span", "_law_step", "_law_one"] ["_law_rows"] (defScope s_law_used) := ⟨rfl, rfl, rfl, by decide +kernel, rfl, by decide +kernel, by decide +kernel⟩
theorem sc_law_sizes : FnScope ["_law_purse_here", "_law_rows", "_law_most", "_law_found", "_law_one"] ["_law_purse_here", "_law_rows", "_law_most"] (defScope s_law_sizes) := ⟨rfl, rfl, rfl, by decide +kernel, rfl, by decide +kernel, by decide +kernel⟩
theorem sc_law_spot : FnScope ["_law_rows", "_law_sizes_here", "_law_cell_here", "_law_at"] ["_law_rows", "_law_sizes_here", "_law_cell_here"] (defScope s_law_spot) := ⟨rfl, rfl, rfl, by decide +kernel, rfl, by decide +kernel, by decide +kernel⟩
theorem sc_law_fits : FnScope ["_law_first", "_law_second", "_law_one"] ["_law_first", "_law_second"] (defScope s_law_fits) := ⟨rfl, rfl, rfl, by decide +kernel, rfl, by decide +kernel, by decide +kernel⟩
theorem sc_law_chained : FnScope ["_law_rows", "_law_some", "_law_row", "_law_at", "_law_one", "_law_other"] ["_law_rows"] (defScope s_law_chained) := ⟨rfl, rfl, rfl, by decide +kernel, rfl, by decide +kernel, by decide +kernel⟩
theorem sc_law_cell : FnScope ["_law_rows", "_law_sizes_here", "_law_spot_here", "_law_found", "_law_row", "_law_at", "_law_step"] ["_law_rows", "_law_sizes_here", "_law_spot_here"] (defScope s_law_cell) := ⟨rfl, rfl, rfl, by decide +kernel, rfl, by decide +kernel, by decide +kernel⟩
theorem sc_law_right : FnScope ["_law_purse_here", "_law_table", "_law_rows", "_law_sizes_here", "_law_kept_sizes", "_law_drawn", "_law_row", "_law_spot_here", "_law_more", "_law_due", "_law_told"] ["_law_purse_here", "_law_table", "_law_rows", "_law_sizes_here"] (defScope s_law_right) := ⟨rfl, rfl, rfl, by decide +kernel, rfl, by decide +kernel, by decide +kernel⟩
theorem sc_law : FnScope ["_law_script", "_law_cell_here", "_law_purse_here", "_law_rows", "_law_table", "_law_most", "_law_sizes_here", "_law_one", "_law_spot_here"] ["_law_script"] (defScope s_law) := ⟨rfl, rfl, rfl, by decide +kernel, rfl, by decide +kernel, by decide +kernel⟩
abbrev c_SMALL : V := .str "abcdefghijklmnopqrstuvwxyz"
structure Txt (K : PySem.W.Frag) (mg : Str → Option Value) where
  a_is_whole : Addr
  fd_is_whole : FuncData
  F_is_whole : Fun K "is_whole" "is_whole" s_is_whole a_is_whole fd_is_whole
  m_is_whole : mg "is_whole" = some (.ref a_is_whole)
  a_is_count : Addr
  fd_is_count : FuncData
  F_is_count : Fun K "is_count" "is_count" s_is_count a_is_count fd_is_count
  m_is_count : mg "is_count" = some (.ref a_is_count)
  a_is_letter : Addr
  fd_is_letter : FuncData
  F_is_letter : Fun K "is_letter" "is_letter" s_is_letter a_is_letter fd_is_letter
  m_is_letter : mg "is_letter" = some (.ref a_is_letter)
  a_are_values : Addr
  fd_are_values : FuncData
  F_are_values : Fun K "are_values" "are_values" s_are_values a_are_values fd_are_values
  m_are_values : mg "are_values" = some (.ref a_are_values)
  a_check_sizes : Addr
  fd_check_sizes : FuncData
  F_check_sizes : Fun K "check_sizes" "check_sizes" s_check_sizes a_check_sizes fd_check_sizes
  m_check_sizes : mg "check_sizes" = some (.ref a_check_sizes)
  a_are_letters : Addr
  fd_are_letters : FuncData
  F_are_letters : Fun K "are_letters" "are_letters" s_are_letters a_are_letters fd_are_letters
  m_are_letters : mg "are_letters" = some (.ref a_are_letters)
  a_are_named : Addr
  fd_are_named : FuncData
  F_are_named : Fun K "are_named" "are_named" s_are_named a_are_named fd_are_named
  m_are_named : mg "are_named" = some (.ref a_are_named)
  a_are_sides : Addr
  fd_are_sides : FuncData
  F_are_sides : Fun K "are_sides" "are_sides" s_are_sides a_are_sides fd_are_sides
  m_are_sides : mg "are_sides" = some (.ref a_are_sides)
  a_valued : Addr
  fd_valued : FuncData
  F_valued : Fun K "valued" "valued" s_valued a_valued fd_valued
  m_valued : mg "valued" = some (.ref a_valued)
  a_rest_of : Addr
  fd_rest_of : FuncData
  F_rest_of : Fun K "rest_of" "rest_of" s_rest_of a_rest_of fd_rest_of
  m_rest_of : mg "rest_of" = some (.ref a_rest_of)
  a_Plain___init : Addr
  fd_Plain___init : FuncData
  F_Plain___init : Fun K "__init__" "Plain.__init__" s_Plain___init a_Plain___init fd_Plain___init
  a_Plain_sizes : Addr
  fd_Plain_sizes : FuncData
  F_Plain_sizes : Fun K "sizes" "Plain.sizes" s_Plain_sizes a_Plain_sizes fd_Plain_sizes
  a_Plain___eq : Addr
  fd_Plain___eq : FuncData
  F_Plain___eq : Fun K "__eq__" "Plain.__eq__" s_Plain___eq a_Plain___eq fd_Plain___eq
  a_check_table : Addr
  fd_check_table : FuncData
  F_check_table : Fun K "check_table" "check_table" s_check_table a_check_table fd_check_table
  m_check_table : mg "check_table" = some (.ref a_check_table)
  a_is_ahead : Addr
  fd_is_ahead : FuncData
  F_is_ahead : Fun K "is_ahead" "is_ahead" s_is_ahead a_is_ahead fd_is_ahead
  m_is_ahead : mg "is_ahead" = some (.ref a_is_ahead)
  a_ordered : Addr
  fd_ordered : FuncData
  F_ordered : Fun K "ordered" "ordered" s_ordered a_ordered fd_ordered
  m_ordered : mg "ordered" = some (.ref a_ordered)
  a_check_own : Addr
  fd_check_own : FuncData
  F_check_own : Fun K "check_own" "check_own" s_check_own a_check_own fd_check_own
  m_check_own : mg "check_own" = some (.ref a_check_own)
  a_found_at : Addr
  fd_found_at : FuncData
  F_found_at : Fun K "found_at" "found_at" s_found_at a_found_at fd_found_at
  m_found_at : mg "found_at" = some (.ref a_found_at)
  a_cell_of : Addr
  fd_cell_of : FuncData
  F_cell_of : Fun K "cell_of" "cell_of" s_cell_of a_cell_of fd_cell_of
  m_cell_of : mg "cell_of" = some (.ref a_cell_of)
  a_law_purse : Addr
  fd_law_purse : FuncData
  F_law_purse : Fun K "_law_purse" "_law_purse" s_law_purse a_law_purse fd_law_purse
  m__law_purse : mg "_law_purse" = some (.ref a_law_purse)
  a_law_mixed : Addr
  fd_law_mixed : FuncData
  F_law_mixed : Fun K "_law_mixed" "_law_mixed" s_law_mixed a_law_mixed fd_law_mixed
  m__law_mixed : mg "_law_mixed" = some (.ref a_law_mixed)
  a_law_draw : Addr
  fd_law_draw : FuncData
  F_law_draw : Fun K "_law_draw" "_law_draw" s_law_draw a_law_draw fd_law_draw
  m__law_draw : mg "_law_draw" = some (.ref a_law_draw)
  a_law_one_of : Addr
  fd_law_one_of : FuncData
  F_law_one_of : Fun K "_law_one_of" "_law_one_of" s_law_one_of a_law_one_of fd_law_one_of
  m__law_one_of : mg "_law_one_of" = some (.ref a_law_one_of)
  a_law_shuffled : Addr
  fd_law_shuffled : FuncData
  F_law_shuffled : Fun K "_law_shuffled" "_law_shuffled" s_law_shuffled a_law_shuffled fd_law_shuffled
  m__law_shuffled : mg "_law_shuffled" = some (.ref a_law_shuffled)
  a_law_letters : Addr
  fd_law_letters : FuncData
  F_law_letters : Fun K "_law_letters" "_law_letters" s_law_letters a_law_letters fd_law_letters
  m__law_letters : mg "_law_letters" = some (.ref a_law_letters)
  a_law_names : Addr
  fd_law_names : FuncData
  F_law_names : Fun K "_law_names" "_law_names" s_law_names a_law_names fd_law_names
  m__law_names : mg "_law_names" = some (.ref a_law_names)
  a_law_chain : Addr
  fd_law_chain : FuncData
  F_law_chain : Fun K "_law_chain" "_law_chain" s_law_chain a_law_chain fd_law_chain
  m__law_chain : mg "_law_chain" = some (.ref a_law_chain)
  a_law_times : Addr
  fd_law_times : FuncData
  F_law_times : Fun K "_law_times" "_law_times" s_law_times a_law_times fd_law_times
  m__law_times : mg "_law_times" = some (.ref a_law_times)
  a_law_used : Addr
  fd_law_used : FuncData
  F_law_used : Fun K "_law_used" "_law_used" s_law_used a_law_used fd_law_used
  m__law_used : mg "_law_used" = some (.ref a_law_used)
  a_law_sizes : Addr
  fd_law_sizes : FuncData
  F_law_sizes : Fun K "_law_sizes" "_law_sizes" s_law_sizes a_law_sizes fd_law_sizes
  m__law_sizes : mg "_law_sizes" = some (.ref a_law_sizes)
  a_law_spot : Addr
  fd_law_spot : FuncData
  F_law_spot : Fun K "_law_spot" "_law_spot" s_law_spot a_law_spot fd_law_spot
  m__law_spot : mg "_law_spot" = some (.ref a_law_spot)
  a_law_fits : Addr
  fd_law_fits : FuncData
  F_law_fits : Fun K "_law_fits" "_law_fits" s_law_fits a_law_fits fd_law_fits
  m__law_fits : mg "_law_fits" = some (.ref a_law_fits)
  a_law_chained : Addr
  fd_law_chained : FuncData
  F_law_chained : Fun K "_law_chained" "_law_chained" s_law_chained a_law_chained fd_law_chained
  m__law_chained : mg "_law_chained" = some (.ref a_law_chained)
  a_law_cell : Addr
  fd_law_cell : FuncData
  F_law_cell : Fun K "_law_cell" "_law_cell" s_law_cell a_law_cell fd_law_cell
  m__law_cell : mg "_law_cell" = some (.ref a_law_cell)
  a_law_right : Addr
  fd_law_right : FuncData
  F_law_right : Fun K "_law_right" "_law_right" s_law_right a_law_right fd_law_right
  m__law_right : mg "_law_right" = some (.ref a_law_right)
  a_law : Addr
  fd_law : FuncData
  F_law : Fun K "law" "law" s_law a_law fd_law
  m_law : mg "law" = some (.ref a_law)
  a_Plain : Addr
  m_Plain : mg "Plain" = some (.ref a_Plain)
  c_Plain : Cls K a_Plain
  I_Plain : ClsI K a_Plain
  n_Plain_row : NoAttr K a_Plain "row"
  k_Plain : Mk K a_Plain a_Plain___init
  M_Plain_sizes : Meth K a_Plain "sizes" a_Plain_sizes
  M_Plain___eq : Meth K a_Plain "__eq__" a_Plain___eq
  O_Plain : OwnEq K a_Plain a_Plain___eq
  u_SMALL : Value
  m_SMALL : mg "SMALL" = some u_SMALL ∧ RelV c_SMALL u_SMALL
  n_bool : mg "bool" = none
  n_dict : mg "dict" = none
  n_enumerate : mg "enumerate" = none
  n_int : mg "int" = none
  n_isinstance : mg "isinstance" = none
  n_len : mg "len" = none
  n_list : mg "list" = none
  n_max : mg "max" = none
  n_min : mg "min" = none
  n_range : mg "range" = none
  n_repr : mg "repr" = none
  n_set : mg "set" = none
  n_sorted : mg "sorted" = none
  n_str : mg "str" = none
  n_sum : mg "sum" = none
  n_tuple : mg "tuple" = none
  tc : Addr
  tP : Addr
  tcode : LamP.CodeIs K a_law_cell tc
variable {P : Program} {w : World} {K : PySem.W.Frag} {mg : Str → Option Value} {base : Heap}
theorem b_is_whole (T : Txt K mg) : Binds K T.fd_is_whole ["value"] [] := T.F_is_whole.binds (ps := ["value"]) fun _ _ _ _ _ _ us hl => match us, hl with | [_], _ => rfl
theorem b_is_count (T : Txt K mg) : Binds K T.fd_is_count ["value"] [] := T.F_is_count.binds (ps := ["value"]) fun _ _ _ _ _ _ us hl => match us, hl with | [_], _ => rfl
theorem b_is_letter (T : Txt K mg) : Binds K T.fd_is_letter ["value"] [] := T.F_is_letter.binds (ps := ["value"]) fun _ _ _ _ _ _ us hl => match us, hl with | [_], _ => rfl
theorem b_are_values (T : Txt K mg) : Binds K T.fd_are_values ["value"] [] := T.F_are_values.binds (ps := ["value"]) fun _ _ _ _ _ _ us hl => match us, hl with | [_], _ => rfl
theorem b_check_sizes (T : Txt K mg) : Binds K T.fd_check_sizes ["names", "values"] [] := T.F_check_sizes.binds (ps := ["names", "values"]) fun _ _ _ _ _ _ us hl => match us, hl with | [_, _], _ => rfl
theorem b_are_letters (T : Txt K mg) : Binds K T.fd_are_letters ["value"] [] := T.F_are_letters.binds (ps := ["value"]) fun _ _ _ _ _ _ us hl => match us, hl with | [_], _ => rfl
theorem b_are_named (T : Txt K mg) : Binds K T.fd_are_named ["value"] [] := T.F_are_named.binds (ps := ["value"]) fun _ _ _ _ _ _ us hl => match us, hl with | [_], _ => rfl
theorem b_are_sides (T : Txt K mg) : Binds K T.fd_are_sides ["value", "parts"] [] := T.F_are_sides.binds (ps := ["value", "parts"]) fun _ _ _ _ _ _ us hl => match us, hl with | [_, _], _ => rfl
theorem b_valued (T : Txt K mg) : Binds K T.fd_valued ["letters", "values"] [] := T.F_valued.binds (ps := ["letters", "values"]) fun _ _ _ _ _ _ us hl => match us, hl with | [_, _], _ => rfl
theorem b_rest_of (T : Txt K mg) : Binds K T.fd_rest_of ["letters", "others"] [] := T.F_rest_of.binds (ps := ["letters", "others"]) fun _ _ _ _ _ _ us hl => match us, hl with | [_, _], _ => rfl
theorem b_Plain___init (T : Txt K mg) : Binds K T.fd_Plain___init ["self", "sides"] [] := T.F_Plain___init.binds (ps := ["self", "sides"]) fun _ _ _ _ _ _ us hl => match us, hl with | [_, _], _ => rfl
theorem b_Plain_sizes (T : Txt K mg) : Binds K T.fd_Plain_sizes ["self"] [] := T.F_Plain_sizes.binds (ps := ["self"]) fun _ _ _ _ _ _ us hl => match us, hl with | [_], _ => rfl
theorem b_Plain___eq (T : Txt K mg) : Binds K T.fd_Plain___eq ["self", "other"] [] := T.F_Plain___eq.binds (ps := ["self", "other"]) fun _ _ _ _ _ _ us hl => match us, hl with | [_, _], _ => rfl
theorem b_check_table (T : Txt K mg) : Binds K T.fd_check_table ["table"] [] := T.F_check_table.binds (ps := ["table"]) fun _ _ _ _ _ _ us hl => match us, hl with | [_], _ => rfl
theorem b_is_ahead (T : Txt K mg) : Binds K T.fd_is_ahead ["one", "other"] [] := T.F_is_ahead.binds (ps := ["one", "other"]) fun _ _ _ _ _ _ us hl => match us, hl with | [_, _], _ => rfl
theorem b_ordered (T : Txt K mg) : Binds K T.fd_ordered ["table"] [] := T.F_ordered.binds (ps := ["table"]) fun _ _ _ _ _ _ us hl => match us, hl with | [_], _ => rfl
theorem b_check_own (T : Txt K mg) : Binds K T.fd_check_own ["table"] [] := T.F_check_own.binds (ps := ["table"]) fun _ _ _ _ _ _ us hl => match us, hl with | [_], _ => rfl
theorem b_found_at (T : Txt K mg) : Binds K T.fd_found_at ["table", "order", "values", "place"] [] := T.F_found_at.binds (ps := ["table", "order", "values", "place"]) fun _ _ _ _ _ _ us hl => match us, hl with | [_, _, _, _], _ => rfl
theorem b_cell_of (T : Txt K mg) : Binds K T.fd_cell_of ["table", "values", "place"] [] := T.F_cell_of.binds (ps := ["table", "values", "place"]) fun _ _ _ _ _ _ us hl => match us, hl with | [_, _, _], _ => rfl
theorem b_law_purse (T : Txt K mg) : Binds K T.fd_law_purse ["_law_script", "_law_at"] [] := T.F_law_purse.binds (ps := ["_law_script", "_law_at"]) fun _ _ _ _ _ _ us hl => match us, hl with | [_, _], _ => rfl
theorem b_law_mixed (T : Txt K mg) : Binds K T.fd_law_mixed ["_law_seed", "_law_step"] [] := T.F_law_mixed.binds (ps := ["_law_seed", "_law_step"]) fun _ _ _ _ _ _ us hl => match us, hl with | [_, _], _ => rfl
theorem b_law_draw (T : Txt K mg) : Binds K T.fd_law_draw ["_law_purse_here", "_law_many"] [] := T.F_law_draw.binds (ps := ["_law_purse_here", "_law_many"]) fun _ _ _ _ _ _ us hl => match us, hl with | [_, _], _ => rfl
theorem b_law_one_of (T : Txt K mg) : Binds K T.fd_law_one_of ["_law_purse_here", "_law_some"] [] := T.F_law_one_of.binds (ps := ["_law_purse_here", "_law_some"]) fun _ _ _ _ _ _ us hl => match us, hl with | [_, _], _ => rfl
theorem b_law_shuffled (T : Txt K mg) : Binds K T.fd_law_shuffled ["_law_purse_here", "_law_some"] [] := T.F_law_shuffled.binds (ps := ["_law_purse_here", "_law_some"]) fun _ _ _ _ _ _ us hl => match us, hl with | [_, _], _ => rfl
theorem b_law_letters (T : Txt K mg) : Binds K T.fd_law_letters ["_law_purse_here", "_law_most"] [] := T.F_law_letters.binds (ps := ["_law_purse_here", "_law_most"]) fun _ _ _ _ _ _ us hl => match us, hl with | [_, _], _ => rfl
theorem b_law_names (T : Txt K mg) : Binds K T.fd_law_names ["_law_purse_here", "_law_many"] [] := T.F_law_names.binds (ps := ["_law_purse_here", "_law_many"]) fun _ _ _ _ _ _ us hl => match us, hl with | [_, _], _ => rfl
theorem b_law_chain (T : Txt K mg) : Binds K T.fd_law_chain ["_law_purse_here", "_law_many", "_law_often"] [] := T.F_law_chain.binds (ps := ["_law_purse_here", "_law_many", "_law_often"]) fun _ _ _ _ _ _ us hl => match us, hl with | [_, _, _], _ => rfl
theorem b_law_times (T : Txt K mg) : Binds K T.fd_law_times ["_law_product", "_law_sizes_here"] [] := T.F_law_times.binds (ps := ["_law_product", "_law_sizes_here"]) fun _ _ _ _ _ _ us hl => match us, hl with | [_, _], _ => rfl
theorem b_law_used (T : Txt K mg) : Binds K T.fd_law_used ["_law_rows"] [] := T.F_law_used.binds (ps := ["_law_rows"]) fun _ _ _ _ _ _ us hl => match us, hl with | [_], _ => rfl
theorem b_law_sizes (T : Txt K mg) : Binds K T.fd_law_sizes ["_law_purse_here", "_law_rows", "_law_most"] [] := T.F_law_sizes.binds (ps := ["_law_purse_here", "_law_rows", "_law_most"]) fun _ _ _ _ _ _ us hl => match us, hl with | [_, _, _], _ => rfl
theorem b_law_spot (T : Txt K mg) : Binds K T.fd_law_spot ["_law_rows", "_law_sizes_here", "_law_cell_here"] [] := T.F_law_spot.binds (ps := ["_law_rows", "_law_sizes_here", "_law_cell_here"]) fun _ _ _ _ _ _ us hl => match us, hl with | [_, _, _], _ => rfl
theorem b_law_fits (T : Txt K mg) : Binds K T.fd_law_fits ["_law_first", "_law_second"] [] := T.F_law_fits.binds (ps := ["_law_first", "_law_second"]) fun _ _ _ _ _ _ us hl => match us, hl with | [_, _], _ => rfl
theorem b_law_chained (T : Txt K mg) : Binds K T.fd_law_chained ["_law_rows"] [] := T.F_law_chained.binds (ps := ["_law_rows"]) fun _ _ _ _ _ _ us hl => match us, hl with | [_], _ => rfl
theorem b_law_cell (T : Txt K mg) : Binds K T.fd_law_cell ["_law_rows", "_law_sizes_here", "_law_spot_here"] [] := T.F_law_cell.binds (ps := ["_law_rows", "_law_sizes_here", "_law_spot_here"]) fun _ _ _ _ _ _ us hl => match us, hl with | [_, _, _], _ => rfl
theorem b_law_right (T : Txt K mg) : Binds K T.fd_law_right ["_law_purse_here", "_law_table", "_law_rows", "_law_sizes_here"] [] := T.F_law_right.binds (ps := ["_law_purse_here", "_law_table", "_law_rows", "_law_sizes_here"]) fun _ _ _ _ _ _ us hl => match us, hl with | [_, _, _, _], _ => rfl
theorem b_law (T : Txt K mg) : Binds K T.fd_law ["_law_script"] [] := T.F_law.binds (ps := ["_law_script"]) fun _ _ _ _ _ _ us hl => match us, hl with | [_], _ => rfl
end CP
open CP L2 in
local macro_rules | `(tactic| walk_at "at") => `(tactic| first
  | assumption
  | (refine CP.Same.to (by assumption) ?_; walk_at "at")
  | (refine CP.SB.to (by assumption) ?ne ?_; (case ne => walk_at "ne"); walk_at "at"))
open CP L2 in
local macro_rules | `(tactic| walk_at "ne") => `(tactic| first
  | assumption
  | (refine Ne.symm ?_; assumption)
  | (refine L2.ne_of_none (o := ?o) ?h1 (by assumption); (case h1 => walk_at "at"))
  | (refine Ne.symm (L2.ne_of_none (o := ?o) ?h1 (by assumption)); (case h1 => walk_at "at")))
open CP L2 in
local macro_rules | `(tactic| walk_at "sm") => `(tactic| first
  | assumption
  | exact L2.Same.refl _
  | (refine L2.Same.trans ?_ (by assumption); walk_at "sm")
  | (refine CP.Same.sb ?s ?n (by assumption); (case s => walk_at "sm"); (case n => walk_at "nn")))
open CP L2 in
local macro_rules | `(tactic| walk_at "nn") => `(tactic| first
  | assumption
  | (refine L2.Same.free ?s (by assumption); (case s => walk_at "sm"))
  | (refine CP.SB.free (by assumption) ?h ?n; (case h => walk_at "nn"); (case n => walk_at "ne")))
open CP L2 in
local macro_rules | `(tactic| walk_at "sq") => `(tactic| first
  | assumption
  | (refine L2.SqL.of ?_; walk_at "at")
  | (refine L2.SqT.of ?_; walk_at "at")
  | (refine L2.Same.seq (by assumption) ?_; walk_at "sq"))
open CP L2 in
local macro_rules | `(tactic| walk_at "side") => `(tactic| first
  | assumption
  | decide
  | (with_reducible refine CP.mul_ok ?_; omega)
  | (with_reducible refine CP.mul_okN ?_; omega)
  | (with_reducible refine CP.div_ok ?_; omega)
  | (show (0 : Int) < _; omega)
  | omega)
open CP L2 in
local macro_rules | `(tactic| walk_at "st") => `(tactic| simp only [L2.start, List.map_cons, List.map_nil, List.length_cons, List.length_nil, Nat.reduceAdd, Nat.reduceSub, List.replicate_succ, List.replicate_zero, List.cons_append, List.nil_append, List.append_nil])
open CP L2 in
local macro_rules | `(tactic| walk_at "s") => `(tactic| first
  | with_reducible refine CP.r_seq ?_
  | with_reducible refine CP.r_asg ?_
  | (with_reducible refine CP.r_name ?_; dsimp only [List.set_cons_zero, List.set_cons_succ])
  | with_reducible refine CP.r_var rfl ?_
  | with_reducible refine CP.r_c ?_
  | with_reducible refine CP.r_op ?_
  | with_reducible refine CP.r_I0 ?_
  | (with_reducible refine CP.r_I ?c ?_; (case c => walk_at "side"))
  | with_reducible refine CP.r_eqI ?_
  | with_reducible refine CP.r_neI ?_
  | with_reducible refine CP.r_test ?_
  | with_reducible refine CP.r_tB ?_
  | with_reducible refine CP.r_bl ?_
  | with_reducible refine CP.r_ifS ?_
  | with_reducible refine CP.if_t ?_
  | with_reducible refine CP.if_f ?_
  | with_reducible refine CP.if_nt ?_
  | with_reducible refine CP.if_nf ?_
  | with_reducible refine CP.r_cons ?_
  | with_reducible refine CP.r_nil ?_
  | with_reducible refine CP.r_call ?_
  | with_reducible refine CP.r_cb ?_
  | with_reducible refine CP.r_ret ?_
  | (with_reducible refine CP.r_par ?_)
  | (with_reducible refine CP.r_two ?_; dsimp only [List.set_cons_zero, List.set_cons_succ])
  | with_reducible refine CP.r_next ?_
  | with_reducible refine CP.r_and ?_
  | with_reducible refine CP.r_or ?_
  | with_reducible refine CP.r_not ?_
  | with_reducible refine CP.r_for ?_
  | with_reducible refine CP.r_iTup ?_
  | with_reducible refine CP.r_iList ?_
  | with_reducible refine CP.r_iRng1 ?_
  | (with_reducible refine CP.r_rng ?a ?b ?_; (case a => omega); (case b => omega))
  | with_reducible refine CP.r_tup ?_
  | with_reducible refine CP.r_lst ?_
  | with_reducible refine CP.r_dnewK ?_
  | (with_reducible refine CP.r_newO ?_; intro _ _ _ _ _)
  | (with_reducible refine CP.r_mk (by first | exact Nat.zero_le _ | (simp only [List.length_cons, List.length_nil, Nat.reduceAdd]; decide) | omega) ?_; intro _ _ _ _ _)
  | (with_reducible refine CP.r_len (ys := ?y) ?h ?_; (case h => walk_at "sq"))
  | (with_reducible refine CP.r_lenT (ys := ?y) ?h ?_; (case h => walk_at "sq"))
  | (with_reducible refine CP.r_list (ys := ?y) ?h ?_; (case h => walk_at "sq"); intro _ _ _ _ _)
  | with_reducible refine CP.r_max2 ?_
  | with_reducible refine CP.r_min2 ?_
  | with_reducible refine CP.r_abs ?_
  | with_reducible refine CP.r_int ?_
  | with_reducible refine CP.r_bits ?_
  | with_reducible refine CP.r_drop ?_
  | with_reducible refine CP.r_bm ?_
  | with_reducible refine CP.r_bm0 ?_
  | with_reducible refine CP.r_sl ?_
  | with_reducible refine CP.r_noPart ?_
  | with_reducible refine CP.r_part ?_
  | with_reducible refine CP.r_gsub ?_
  | (with_reducible refine CP.r_slL (xs := ?x) ?h ?_; (case h => walk_at "sq"); intro _ _ _ _ _)
  | (with_reducible refine CP.r_cat (xs := ?x) (ys := ?y) ?h ?h2 ?z ?_; (case h => walk_at "at"); (case h2 => walk_at "at"); (case z => first | omega | (simp only [List.length_map, List.length_cons, List.length_nil]; omega)); intro _ _ _ _ _)
  | with_reducible refine CP.r_lc ?_
  | (with_reducible refine CP.r_gtup (xs := ?x) ?h ?l ?_; (case h => walk_at "sq"); (case l => simp only [List.length_cons, List.length_nil, Nat.reduceAdd]))
  | with_reducible refine CP.r_gcons ?_
  | with_reducible refine CP.r_iRng2 ?_
  | (with_reducible refine CP.r_rng2 ?a ?_; (case a => omega))
  | with_reducible refine CP.r_neB ?_
  | with_reducible refine CP.r_eqB ?_
  | with_reducible refine CP.r_dget2 ?_
  | with_reducible refine CP.r_sdput ?_
  | (with_reducible refine CP.r_disp1 ?_; intro _ _ _ _ _)
  | with_reducible refine CP.r_gnil ?_
  | with_reducible refine CP.r_callW ?_
  | with_reducible refine CP.r_callD ?_
  | with_reducible refine CP.r_retN ?_
  | with_reducible refine CP.r_andV ?_
  | with_reducible refine CP.r_orV ?_
  | with_reducible refine CP.r_notV ?_
  | (with_reducible refine CP.r_isi (n := ?n) ?t ?c ?_; (case t => first | assumption | exact CP.tk_int | exact CP.tk_bl | exact CP.tk_non | exact CP.tk_str); (case c => decide))
  | with_reducible refine CP.r_ifE ?_)
open CP L2 in
local macro_rules | `(tactic| walk_at "d") => `(tactic| first
  | (with_reducible refine CP.r_name ?_; dsimp only [L2.wipe, List.set_cons_zero, List.set_cons_succ])
  | with_reducible refine CP.r_chain ?_
  | with_reducible refine CP.r_eqXS ?_
  | with_reducible refine CP.r_neXS ?_
  | with_reducible refine CP.r_eqXI ?_
  | with_reducible refine CP.r_neXI ?_
  | with_reducible refine CP.r_dc ?_
  | with_reducible refine CP.r_par3 ?_
  | with_reducible refine CP.r_iEnum ?_
  | with_reducible refine CP.r_makeK ?_
  | with_reducible refine CP.r_iKeys ?_
  | with_reducible refine CP.r_revL ?_
  | (with_reducible refine CP.r_three ?_; dsimp only [List.set_cons_zero, List.set_cons_succ])
  | with_reducible refine CP.r_notNr ?_
  | with_reducible refine CP.r_notNn ?_
  | with_reducible refine CP.r_isNr ?_
  | with_reducible refine CP.r_isNn ?_
  | with_reducible refine CP.r_lc2 ?_
  | with_reducible refine CP.r_iStr ?_
  | with_reducible refine CP.r_strx ?_
  | with_reducible refine CP.r_inS ?_
  | with_reducible refine CP.r_notInS ?_
  | with_reducible refine CP.r_tfld ?_
  | with_reducible refine CP.r_sfld ?_
  | with_reducible refine CP.r_tmake ?_
  | with_reducible refine CP.r_tmeth ?_
  | with_reducible refine CP.r_tdni ?_
  | with_reducible refine CP.r_tdin ?_
  | with_reducible refine CP.r_tdget ?_
  | (with_reducible refine CP.r_lookI (kvs := ?k) ?h ?_; (case h => walk_at "at"))
  | (with_reducible refine CP.r_lookS (kvs := ?k) ?h ?_; (case h => walk_at "at"))
  | (with_reducible refine CP.r_isD (kvs := ?k) ?h ?_; (case h => walk_at "at"))
  | (with_reducible refine CP.r_dget2I (kvs := ?k) ?h ?_; (case h => walk_at "at"))
  | (with_reducible refine CP.r_dget2S (kvs := ?k) ?h ?_; (case h => walk_at "at"))
  | with_reducible refine CP.r_un ?_
  | with_reducible refine CP.r_unI ?_
  | with_reducible refine CP.r_callSD ?_
  | with_reducible refine CP.r_methSD ?_
  | with_reducible refine CP.r_tryK ?_
  | with_reducible refine CP.r_raise0 ?_
  | with_reducible refine CP.r_raise ?_
  | with_reducible refine CP.r_errF ?_)
open CP L2 in
local macro_rules | `(tactic| walk_at "w") => `(tactic| first
  | walk_at "s"
  | walk_at "d")

namespace CP
open PySem L2
section
variable {P : Program} {w : World} {K : PySem.W.Frag} {mg : Str → Option Value} {base : Heap}
/-- of a value of a known kind -/
def sp_is_whole (_ : Txt K mg) : Sp := fun vs H Q _ => match vs with
  | [x] => ∃ n, TK K H x n ∧ Q (.bl (n == "int")) H
  | _ => False
def t_is_whole (w : World) (T : Txt K mg) : TS := tRet (tAndV (tCB (rIsi K) (tCons (tVar 0) (tCons (tC (.ty "int")) (tNil)))) (tNotV (tCB (rIsi K) (tCons (tVar 0) (tCons (tC (.ty "bool")) (tNil))))))
theorem len_is_whole (T : Txt K mg) : ∀ (vs : List V) (H : Hp) (Q : VK) (E : XK), sp_is_whole T vs H Q E → vs.length = (["value"] : List Str).length := by
  intro vs H Q E h
  unfold sp_is_whole at h
  split at h
  all_goals first | rfl | exact h.elim
theorem rd_is_whole (T : Txt K mg) (vs : List V) (H : Hp) (Q : VK) (E : XK) (h : sp_is_whole T vs H Q E) : t_is_whole w T { nx := fun _ H' => Q .non H', rt := Q } (start ["value"] vs) H := by
  match vs, h with
  | [x], h =>
  obtain ⟨n, ht, q⟩ := h
  unfold t_is_whole
  walk_at "st"
  repeat walk_at "s"
  refine if_b (fun c => ?_) (fun c => ?_)
  · repeat walk_at "s"
    have e : (!(n == "bool" || n == "bool" && "bool" == "int")) = (n == "int") := by
      cases hb : n == "int" <;> cases hi : n == "bool" <;> simp_all
    rw [e]
    exact q
  · have e : (n == "int") = false := by
      cases hb : n == "int" <;> simp_all
    rw [e] at q
    exact q

theorem ok_is_whole (T : Txt K mg) : FnOk P w K mg base CX0 1 T.a_is_whole T.fd_is_whole ["value"] (sp_is_whole T) :=
  T.F_is_whole.ok sc_is_whole (len_is_whole T) fun cdv A outer s H vs Q E hr h => ⟨t_is_whole w T, (pss_one (ps_ret (pe_and (pe_callB call_isi (by rfl) T.n_isinstance (by decide +kernel) (pa_cons (pv 0) (pa_cons (pe_bltn (v := .ty "int") (by rfl) T.n_int (by decide +kernel) rfl) pa_nil))) (pe_one (pe_not (pe_callB call_isi (by rfl) T.n_isinstance (by decide +kernel) (pa_cons (pv 0) (pa_cons (pe_bltn (v := .ty "bool") (by rfl) T.n_bool (by decide +kernel) rfl) pa_nil)))))))), rd_is_whole T vs H Q E h⟩
end
end CP

namespace CP
open PySem L2
section
variable {P : Program} {w : World} {K : PySem.W.Frag} {mg : Str → Option Value} {base : Heap}
def sp_is_count (_ : Txt K mg) : Sp := fun vs H Q _ => match vs with
  | [.int i] => Q (.bl (decide (0 ≤ i))) H
  | [x] => ∃ n, TK K H x n ∧ n ≠ "int" ∧ Q (.bl false) H
  | _ => False
def t_is_count (w : World) (T : Txt K mg) : TS := tRet (tAndV (tCall (sp_is_whole T) [] E0 (tCons (tVar 0) (tNil))) (tOp oGe (tVar 0) (tC (.int 0))))
theorem len_is_count (T : Txt K mg) : ∀ (vs : List V) (H : Hp) (Q : VK) (E : XK), sp_is_count T vs H Q E → vs.length = (["value"] : List Str).length := by
  intro vs H Q E h
  unfold sp_is_count at h
  split at h
  all_goals first | rfl | exact h.elim
theorem rd_is_count (T : Txt K mg) (vs : List V) (H : Hp) (Q : VK) (E : XK) (h : sp_is_count T vs H Q E) : t_is_count w T { nx := fun _ H' => Q .non H', rt := Q } (start ["value"] vs) H := by
  unfold t_is_count
  unfold sp_is_count at h
  split at h
  · rename_i i
    walk_at "st"
    repeat walk_at "s"
    refine ⟨"int", tk_int, ?_⟩
    repeat walk_at "s"
    refine if_t ?_
    repeat walk_at "s"
    exact h
  · rename_i x hx
    obtain ⟨n, ht, hn, q⟩ := h
    walk_at "st"
    repeat walk_at "s"
    refine ⟨n, ht, ?_⟩
    repeat walk_at "s"
    have e : (n == "int") = false := by simpa using hn
    rw [e]
    refine if_f ?_
    exact q
  · exact h.elim

theorem ok_is_count (T : Txt K mg) : FnOk P w K mg base CX0 2 T.a_is_count T.fd_is_count ["value"] (sp_is_count T) :=
  T.F_is_count.ok sc_is_count (len_is_count T) fun cdv A outer s H vs Q E hr h => ⟨t_is_count w T, (pss_one (ps_ret (pe_and (pe_call (ok_is_whole T) (hr.mono (by decide)) (by rfl) T.m_is_whole T.F_is_whole.kp (b_is_whole T) .nil pass0 (pa_cons (pv 0) pa_nil)) (pe_one (pe_cmpR op_ge (pv 0) pe_int (nomark _)))))), rd_is_count T vs H Q E h⟩
end
end CP

namespace CP
open PySem L2
section
variable {P : Program} {w : World} {K : PySem.W.Frag} {mg : Str → Option Value} {base : Heap}
def sp_is_letter (_ : Txt K mg) : Sp := fun vs H Q _ => match vs with
  | [x] => ∃ n, TK K H x n ∧ ((n ≠ "str" ∧ ∀ H', Same H H' → Q (.bl false) H') ∨ ∃ z, n = "str" ∧ x = .str z ∧ z.length ≤ sizeLine ∧ (PyData.str z).canLay0 = true ∧ ∀ H', Same H H' → Q (.bl (letB z)) H')
  | _ => False
def t_is_letter (w : World) (T : Txt K mg) : TS := tSeq (tIfS (tOr (tNot (tB (tCB (rIsi K) (tCons (tVar 0) (tCons (tC (.ty "str")) (tNil)))))) (tNot (tTest (tChain oLe oLe (tC (.int 1)) (tCB oLenS (tCons (tVar 0) (tNil))) (tC (.int 10)))))) (tRet (tC (.bl false))) (tNext)) (tRet (tOp (rEqX K) (tLc (iStr (tVar 0)) (gName 1) (tTest (tOp rNotInS (tVar 1) (tC (c_SMALL)))) (tVar 1) [1]) (tLst (tNil))))
theorem len_is_letter (T : Txt K mg) : ∀ (vs : List V) (H : Hp) (Q : VK) (E : XK), sp_is_letter T vs H Q E → vs.length = (["value"] : List Str).length := by
  intro vs H Q E h
  unfold sp_is_letter at h
  split at h
  all_goals first | rfl | exact h.elim
theorem rd_is_letter (T : Txt K mg) (vs : List V) (H : Hp) (Q : VK) (E : XK) (h : sp_is_letter T vs H Q E) : t_is_letter w T { nx := fun _ H' => Q .non H', rt := Q } (start ["value", "sign"] vs) H := by
  match vs, h with
  | [x], h =>
  obtain ⟨n, ht, h⟩ := h
  unfold t_is_letter
  walk_at "st"
  repeat walk_at "w"
  have e2 : ("str" == "int") = false := by decide
  rcases h with ⟨hn, q⟩ | ⟨z, rfl, rfl, hz, hy, q⟩
  · have e1 : (n == "str") = false := by rw [beq_eq_false_iff_ne]; exact hn
    rw [e1, e2, Bool.and_false, Bool.or_false]
    repeat walk_at "w"
    exact q _ (Same.refl _)
  · have e1 : ("str" == "str" || "str" == "bool" && "str" == "int") = true := by decide
    rw [e1]
    repeat walk_at "w"
    refine r_lenS hz ?_
    repeat walk_at "w"
    unfold letB at q
    refine if_d (fun k1 => ?_) fun k1 => ?_
    · repeat walk_at "w"
      refine if_nd (fun k2 => ?_) fun k2 => ?_
      · repeat walk_at "w"
        rw [decide_eq_false (by omega)] at q
        exact q _ (Same.refl _)
      · repeat walk_at "w"
        rw [decide_eq_true (by omega), Bool.true_and] at q
        have zs : z.length = z.cps.size := rfl
        intro D hD
        refine lc_tellS (β := V) (fun _ x b => x = b) ((z.cps.toList.map fun c => if decide (c ∈ smallT.cps.toList) = true then none else some (V.str ⟨#[c]⟩))) hD (by simp) (by rw [List.length_map, Array.length_toList]; have : sizeLine = 16777216 := rfl; omega) (fun _ _ _ _ _ z => z) (fun i c o H' hc ho s1 _ N no yes => ?_) fun H1 acc s1 hacc pp => ?_
        · have ho : o = if decide (c ∈ smallT.cps.toList) = true then none else some (V.str ⟨#[c]⟩) := by
            rw [List.getElem?_map, Array.getElem?_toList, hc] at ho
            exact (Option.some.inj ho).symm
          subst ho
          repeat walk_at "w"
          refine ⟨rfl, ?_⟩
          repeat walk_at "w"
          refine if_nd (fun k => ?_) fun k => ?_
          · have k : ¬ c ∈ smallT.cps.toList := k
            rw [if_neg (by rw [decide_eq_false k]; decide)] at yes
            repeat walk_at "w"
            exact yes _ _ _ rfl (Same.refl _) rfl
          · have k : c ∈ smallT.cps.toList := k
            rw [if_pos (by rw [decide_eq_true k])] at no
            exact no _ rfl (Same.refl _)
        · have e := pd_eq pp
          rw [List.filterMap_map] at e
          have e3 : acc = strL ((z.cps.toList.filter fun c => !decide (c ∈ smallT.cps.toList)).map fun c => ⟨#[c]⟩) := by
            rw [e]
            unfold strL
            rw [List.map_map]
            generalize z.cps.toList = l
            induction l with
            | nil => rfl
            | cons c l ih =>
              by_cases k : c ∈ smallT.cps.toList
              · rw [List.filterMap_cons_none (by show (if decide (c ∈ smallT.cps.toList) = true then none else _) = none; rw [if_pos (decide_eq_true k)]), List.filter_cons_of_neg (by rw [decide_eq_true k]; decide)]
                exact ih
              · rw [List.filterMap_cons_some (b := V.str ⟨#[c]⟩) (by show (if decide (c ∈ smallT.cps.toList) = true then none else _) = _; rw [if_neg (by rw [decide_eq_false k]; decide)]), List.filter_cons_of_pos (by rw [decide_eq_false k]; rfl), List.map_cons, ih]
                rfl
          rw [e3] at hacc
          have hlow : ∀ c ∈ z.cps.toList, c < 0x110000 := fun c hc => by
            simp only [PyData.canLay0] at hy
            have hy : z.cps.all (· < 0x110000) = true := hy
            rw [← Array.all_toList, List.all_eq_true] at hy
            exact of_decide_eq_true (hy c hc)
          repeat walk_at "w"
          rename_i L HL L0 sL hL
          have q' := q HL (s1.trans sL)
          refine nil_eqX (.of (CP.Same.to sL hacc)) (.of hL) (strs_dp fun x hx => ?_) ?_
          · obtain ⟨c, hc, rfl⟩ := List.mem_map.mp hx
            have := hlow c (List.mem_filter.mp hc).1
            simp only [PyData.canLay0]
            show (#[c] : Array Nat).all (· < 0x110000) = true
            simp [this]
          · have e4 : (strL ((z.cps.toList.filter fun c => !decide (c ∈ smallT.cps.toList)).map fun c => ⟨#[c]⟩)).isEmpty = z.cps.toList.all fun c => decide (c ∈ smallT.cps.toList) := by
              unfold strL
              rw [Bool.eq_iff_iff, List.isEmpty_iff, List.map_eq_nil_iff, List.map_eq_nil_iff, List.filter_eq_nil_iff, List.all_eq_true]
              refine forall_congr' fun c => forall_congr' fun _ => ?_
              cases decide (c ∈ smallT.cps.toList) <;> simp
            rw [e4]
            exact q'
    · repeat walk_at "w"
      rw [decide_eq_false (by omega)] at q
      exact q _ (Same.refl _)

theorem ok_is_letter (T : Txt K mg) : FnOk P w K mg base CX0 1 T.a_is_letter T.fd_is_letter ["value"] (sp_is_letter T) :=
  T.F_is_letter.ok sc_is_letter (len_is_letter T) fun cdv A outer s H vs Q E hr h => ⟨t_is_letter w T, (pss_cons (ps_if (PW.pt (pw_or (pt_not (pt_val (pe_callB call_isi (by rfl) T.n_isinstance (by decide +kernel) (pa_cons (pv 0) (pa_cons (pe_bltn (v := .ty "str") (by rfl) T.n_str (by decide +kernel) rfl) pa_nil))))) (pw_or1 (pt_not (pt_chain op_le op_le pe_int (pe_callB call_len_str (by rfl) T.n_len (by decide +kernel) (pa_cons (pv 0) pa_nil)) pe_int))))) (pss_one (ps_ret pe_bl)) pss_nil)
      (pss_one (ps_ret (pe_cmpR (op_eqX hr.units) (pe_lc (own := [("sign", 1)]) (g := (gName 1)) (tt := tTest (tOp rNotInS (tVar 1) (tC (c_SMALL)))) (te := tVar 1) rfl sc_is_letter.nd (pi_str (pv 0)) (blkOk_by (own := [("sign", 1)]) (N := ["value", "sign"]) (sc := defScope s_is_letter) (by decide +kernel)) (fun _ _ _ _ _ => (pg_name (i := 1) sc_is_letter.nd rfl (Or.inl rfl))) (fun _ _ _ _ _ => (pts_one (pt_cmpR op_notInS (pv 1) (pe_glob (by rfl) T.m_SMALL.1 T.m_SMALL.2) (by rfl)))) (fun _ _ _ _ _ => (pv 1))) (pe_lst pa_nil) (nomark _))))), rd_is_letter T vs H Q E h⟩
end
end CP

namespace CP
open PySem L2
section
variable {P : Program} {w : World} {K : PySem.W.Frag} {mg : Str → Option Value} {base : Heap}
def sp_are_values (_ : Txt K mg) : Sp := fun vs H Q _ => match vs with
  | [.ref d] => ∃ kv, H d = some (.dK (dV kv)) ∧ (∀ p ∈ kv, letB p.1 = true) ∧ (kv.map (·.1)).Nodup ∧ kv.length < 2000 ∧ ∀ H', Same H H' → Q (.bl true) H'
  | _ => False
def t_are_values (w : World) (T : Txt K mg) : TS := tSeq (tIfS (tNot (tB (tCB (rIsi K) (tCons (tVar 0) (tCons (tC (.ty "dict")) (tNil)))))) (tRet (tC (.bl false))) (tNext)) (tRet (tOp (rEqX K) (tLockE (tLc (iKeys (tVar 0)) (gName 1) (tOr (tNot (tB (tCall (sp_is_letter T) [] E0 (tCons (tVar 1) (tNil))))) (tNot (tB (tCall (sp_is_whole T) [] E0 (tCons (tDGet (tVar 0) (tVar 1)) (tNil)))))) (tVar 1) [1])) (tLst (tNil))))
theorem len_are_values (T : Txt K mg) : ∀ (vs : List V) (H : Hp) (Q : VK) (E : XK), sp_are_values T vs H Q E → vs.length = (["value"] : List Str).length := by
  intro vs H Q E h
  unfold sp_are_values at h
  split at h
  all_goals first | rfl | exact h.elim
theorem rd_are_values (T : Txt K mg) (vs : List V) (H : Hp) (Q : VK) (E : XK) (h : sp_are_values T vs H Q E) : t_are_values w T { nx := fun _ H' => Q .non H', rt := Q } (start ["value", "name"] vs) H := by
  match vs, h with
  | [.ref d], h =>
  obtain ⟨kv, hd, hl, nd, hz, q⟩ := h
  have sz : sizeLine = 16777216 := rfl
  unfold t_are_values
  walk_at "st"
  repeat walk_at "w"
  refine r_isi (n := "dict") (tk_dK hd) (by decide) ?_
  rw [show ("dict" == "dict" || ("dict" == "bool" && "dict" == "int")) = true by decide]
  repeat walk_at "w"
  refine r_lockE hd fun od H1 h1 k1 sm => ?_
  repeat walk_at "w"
  refine ⟨d, od, rfl, .inl ⟨_, h1, fun D hD => lc_keysN hD h1 (by unfold dV; rw [List.length_map]; omega) (fun i k v H2 hk s2 N no yes => ?_) fun H2 s2 hacc => ?_⟩⟩
  · obtain ⟨p, hp, rfl, rfl⟩ := dV_get hk
    have lp := hl p hp
    have h2 := CP.Same.to s2 h1
    repeat walk_at "w"
    refine ⟨rfl, ?_⟩
    repeat walk_at "w"
    refine ⟨"str", tk_str, .inr ⟨p.1, rfl, rfl, by have := let_len lp; omega, let_lay lp, fun H3 s3 => ?_⟩⟩
    rw [lp]
    repeat walk_at "w"
    refine r_dgetF (CP.Same.to s3 h2) (by rw [dV_val, getD_mem nd hp]; rfl) ?_
    repeat walk_at "w"
    refine ⟨"int", tk_int, ?_⟩
    repeat walk_at "w"
    exact no _ rfl s3
  have dD : D ≠ d := fun e => by rw [e, h1] at hD; cases hD
  refine ⟨CP.Same.to s2 h1, ?_⟩
  have S := sm H2 s2
  have hacc : (upd H2 d (.dK (dV kv))) D = some (.lst []) := by rw [upd_ne dD]; exact hacc
  generalize upd H2 d (.dK (dV kv)) = H3 at *
  repeat walk_at "w"
  rename_i M H4 M0 s4 hM
  refine nil_eqX0 (.of (CP.Same.to s4 hacc)) (.of hM) ?_
  repeat walk_at "w"
  exact q _ (S.trans s4)

theorem ok_are_values (T : Txt K mg) : FnOk P w K mg base CX0 2 T.a_are_values T.fd_are_values ["value"] (sp_are_values T) :=
  T.F_are_values.ok sc_are_values (len_are_values T) fun cdv A outer s H vs Q E hr h => ⟨t_are_values w T, (pss_cons (ps_if (pt_not (pt_val (pe_callB call_isi (by rfl) T.n_isinstance (by decide +kernel) (pa_cons (pv 0) (pa_cons (pe_bltn (v := .ty "dict") (by rfl) T.n_dict (by decide +kernel) rfl) pa_nil))))) (pss_one (ps_ret pe_bl)) pss_nil)
      (pss_one (ps_ret (pe_cmpR (op_eqX hr.units) (pe_lock (pe_lc (own := [("name", 1)]) (g := (gName 1)) (tt := tOr (tNot (tB (tCall (sp_is_letter T) [] E0 (tCons (tVar 1) (tNil))))) (tNot (tB (tCall (sp_is_whole T) [] E0 (tCons (tDGet (tVar 0) (tVar 1)) (tNil)))))) (te := tVar 1) rfl sc_are_values.nd (pi_keys (pv 0)) (blkOk_by (own := [("name", 1)]) (N := ["value", "name"]) (sc := defScope s_are_values) (by decide +kernel)) (fun _ _ _ _ _ => (pg_name (i := 1) sc_are_values.nd rfl (Or.inl rfl))) (fun _ _ _ _ _ => (pts_one (PW.pt (pw_or (pt_not (pt_val (pe_call (ok_is_letter T) (hr.mono (by decide)) (by rfl) T.m_is_letter T.F_is_letter.kp (b_is_letter T) .nil pass0 (pa_cons (pv 1) pa_nil)))) (pw_or1 (pt_not (pt_val (pe_call (ok_is_whole T) (hr.mono (by decide)) (by rfl) T.m_is_whole T.F_is_whole.kp (b_is_whole T) .nil pass0 (pa_cons (pe_dget (hu_of hr) (pv 0) (pv 1) (fun _ _ => rfl)) pa_nil))))))))) (fun _ _ _ _ _ => (pv 1)))) (pe_lst pa_nil) (nomark _))))), rd_are_values T vs H Q E h⟩
end
end CP

namespace CP
open PySem L2
section
variable {P : Program} {w : World} {K : PySem.W.Frag} {mg : Str → Option Value} {base : Heap}
def sp_check_sizes (_ : Txt K mg) : Sp := fun vs H Q _ => match vs with
  | [.ref a, .ref d] => ∃ l kv, H a = some (.lst (strL l)) ∧ H d = some (.dK (dV kv)) ∧ (∀ p ∈ kv, letB p.1 = true) ∧ (kv.map (·.1)).Nodup ∧ kv.length < 2000 ∧ l.length < 2000 ∧ (∀ k ∈ l, ∃ n, getD kv k = some n ∧ 1 ≤ n) ∧ ∀ H', Same H H' → Q .non H'
  | _ => False
def t_check_sizes (w : World) (T : Txt K mg) : TS := tIfS (tOr (tNot (tB (tCall (sp_are_values T) [] E0 (tCons (tVar 1) (tNil))))) (tTest (tOp (rNeX K) (tLc (iList K (tVar 0)) (gName 2) (tOr (tB (tDNotIn (tVar 2) (tVar 1))) (tTest (tOp oLt (tDGet (tVar 1) (tVar 2)) (tC (.int 1))))) (tVar 2) [2]) (tLst (tNil))))) (tNever) (tNext)
theorem len_check_sizes (T : Txt K mg) : ∀ (vs : List V) (H : Hp) (Q : VK) (E : XK), sp_check_sizes T vs H Q E → vs.length = (["names", "values"] : List Str).length := by
  intro vs H Q E h
  unfold sp_check_sizes at h
  split at h
  all_goals first | rfl | exact h.elim
theorem rd_check_sizes (T : Txt K mg) (vs : List V) (H : Hp) (Q : VK) (E : XK) (h : sp_check_sizes T vs H Q E) : t_check_sizes w T { nx := fun _ H' => Q .non H', rt := Q } (start ["names", "values", "name"] vs) H := by
  match vs, h with
  | [.ref a, .ref d], h =>
  obtain ⟨l, kv, ha, hd, hl, nd, hz, lz, hk, q⟩ := h
  have sz : sizeLine = 16777216 := rfl
  unfold t_check_sizes
  walk_at "st"
  repeat walk_at "w"
  refine ⟨kv, hd, hl, nd, hz, fun H1 s1 => ?_⟩
  repeat walk_at "w"
  have ha1 := CP.Same.to s1 ha
  refine ⟨a, rfl, ⟨_, .of ha1⟩, fun D hD => lc_noneL hD (.of ha1) (by rw [strL_len]; omega) (fun k z H8 hz s8 N no yes => ?_) fun H8 s8 hacc => ?_⟩
  · obtain ⟨w0, hw, rfl⟩ := strL_get hz
    obtain ⟨n, gn, n1⟩ := hk w0 (List.mem_of_getElem? hw)
    have hd8 := CP.Same.to s8 (CP.Same.to s1 hd)
    repeat walk_at "w"
    refine ⟨rfl, ?_⟩
    repeat walk_at "w"
    rw [dV_val, gn]
    repeat walk_at "w"
    refine if_nf ?_
    repeat walk_at "w"
    refine r_dgetS hd8 (by rw [dV_val, gn]; rfl) ?_
    repeat walk_at "w"
    rw [decide_eq_false (by omega)]
    repeat walk_at "w"
    exact no _ rfl (Same.refl _)
  repeat walk_at "w"
  rename_i L H9 L0 s9 hL
  refine nil_neX0 (.of (CP.Same.to s9 hacc)) (.of hL) ?_
  repeat walk_at "w"
  exact q _ ((s1.trans s8).trans s9)

theorem ok_check_sizes (T : Txt K mg) : FnOk P w K mg base CX0 3 T.a_check_sizes T.fd_check_sizes ["names", "values"] (sp_check_sizes T) :=
  T.F_check_sizes.ok sc_check_sizes (len_check_sizes T) fun cdv A outer s H vs Q E hr h => ⟨t_check_sizes w T, (pss_one (ps_if (PW.pt (pw_or (pt_not (pt_val (pe_call (ok_are_values T) (hr.mono (by decide)) (by rfl) T.m_are_values T.F_are_values.kp (b_are_values T) .nil pass0 (pa_cons (pv 1) pa_nil)))) (pw_or1 (pt_cmpR (op_neX hr.units) (pe_lc (own := [("name", 2)]) (g := (gName 2)) (tt := tOr (tB (tDNotIn (tVar 2) (tVar 1))) (tTest (tOp oLt (tDGet (tVar 1) (tVar 2)) (tC (.int 1))))) (te := tVar 2) rfl sc_check_sizes.nd (pi_list (pv 0)) (blkOk_by (own := [("name", 2)]) (N := ["names", "values", "name"]) (sc := defScope s_check_sizes) (by decide +kernel)) (fun _ _ _ _ _ => (pg_name (i := 2) sc_check_sizes.nd rfl (Or.inl rfl))) (fun _ _ _ _ _ => (pts_one (PW.pt (pw_or (pt_cmp (pc_dnotin (hu_of hr) (pv 2) (pv 1))) (pw_or1 (pt_cmpR op_lt (pe_dget (hu_of hr) (pv 1) (pv 2) (fun _ _ => rfl)) pe_int (nomark _))))))) (fun _ _ _ _ _ => (pv 2))) (pe_lst pa_nil) (nomark _))))) (pss_one ps_never) pss_nil)), rd_check_sizes T vs H Q E h⟩
end
end CP

namespace CP
open PySem L2
section
variable {P : Program} {w : World} {K : PySem.W.Frag} {mg : Str → Option Value} {base : Heap}
def sp_are_letters (_ : Txt K mg) : Sp := fun vs H Q _ => match vs with
  | [x] => ∃ a l, x = .ref a ∧ H a = some (.lst (strL l)) ∧ Lets l ∧ ∀ H', Same H H' → Q (.bl true) H'
  | _ => False
def t_are_letters (w : World) (T : Txt K mg) : TS := tRet (tAndV (tCB (rIsi K) (tCons (tVar 0) (tCons (tC (.ty "list")) (tNil)))) (tOp (rEqX K) (tLc (iList K (tVar 0)) (gName 1) (tNot (tB (tCall (sp_is_letter T) [] E0 (tCons (tVar 1) (tNil))))) (tVar 1) [1]) (tLst (tNil))))
theorem len_are_letters (T : Txt K mg) : ∀ (vs : List V) (H : Hp) (Q : VK) (E : XK), sp_are_letters T vs H Q E → vs.length = (["value"] : List Str).length := by
  intro vs H Q E h
  unfold sp_are_letters at h
  split at h
  all_goals first | rfl | exact h.elim
theorem rd_are_letters (T : Txt K mg) (vs : List V) (H : Hp) (Q : VK) (E : XK) (h : sp_are_letters T vs H Q E) : t_are_letters w T { nx := fun _ H' => Q .non H', rt := Q } (start ["value", "one"] vs) H := by
  match vs, h with
  | [x], h =>
  obtain ⟨a, l, rfl, ha, hl, q⟩ := h
  have sz : sizeLine = 16777216 := rfl
  have l5 := hl.2
  unfold t_are_letters
  walk_at "st"
  repeat walk_at "w"
  refine r_isi (n := "list") (tk_lst ha) (by decide) ?_
  have e1 : ("list" == "list" || "list" == "bool" && "list" == "int") = true := by decide
  rw [e1]
  refine ⟨true, rfl, if_t ?_⟩
  repeat walk_at "w"
  refine ⟨a, rfl, ⟨_, .of ha⟩, fun D hD => lc_tell (β := V) (fun _ x b => x = b) (l.map fun _ => none) hD (.of ha) (by rw [strL_len, List.length_map]) (by rw [List.length_map]; omega) (fun _ _ _ _ _ z => z) (fun i x o H' hx ho s1 _ N no yes => ?_) fun H1 acc s1 hacc pp => ?_⟩
  · obtain ⟨z, hz, rfl⟩ := strL_get hx
    have ho : o = none := by
      rw [List.getElem?_map, hz] at ho
      exact (Option.some.inj ho).symm
    subst ho
    have lz := hl.1 z (List.mem_of_getElem? hz)
    have zl := let_len lz
    repeat walk_at "w"
    refine ⟨rfl, ?_⟩
    repeat walk_at "w"
    refine ⟨"str", tk_str, .inr ⟨z, rfl, rfl, by omega, let_lay lz, fun H2 s2 => ?_⟩⟩
    rw [lz]
    repeat walk_at "w"
    exact no _ rfl s2
  · have e := pd_eq pp
    have e2 : acc = [] := by
      rw [e]
      generalize l = m
      induction m with
      | nil => rfl
      | cons _ m ih => exact ih
    rw [e2] at hacc
    repeat walk_at "w"
    rename_i L HL L0 sL hL
    refine nil_eqX (.of (CP.Same.to sL hacc)) (.of hL) ⟨[], .nil, by decide +kernel, by decide +kernel⟩ ?_
    exact q _ (s1.trans sL)

theorem ok_are_letters (T : Txt K mg) : FnOk P w K mg base CX0 2 T.a_are_letters T.fd_are_letters ["value"] (sp_are_letters T) :=
  T.F_are_letters.ok sc_are_letters (len_are_letters T) fun cdv A outer s H vs Q E hr h => ⟨t_are_letters w T, (pss_one (ps_ret (pe_and (pe_callB call_isi (by rfl) T.n_isinstance (by decide +kernel) (pa_cons (pv 0) (pa_cons (pe_bltn (v := .ty "list") (by rfl) T.n_list (by decide +kernel) rfl) pa_nil))) (pe_one (pe_cmpR (op_eqX hr.units) (pe_lc (own := [("one", 1)]) (g := (gName 1)) (tt := tNot (tB (tCall (sp_is_letter T) [] E0 (tCons (tVar 1) (tNil))))) (te := tVar 1) rfl sc_are_letters.nd (pi_list (pv 0)) (blkOk_by (own := [("one", 1)]) (N := ["value", "one"]) (sc := defScope s_are_letters) (by decide +kernel)) (fun _ _ _ _ _ => (pg_name (i := 1) sc_are_letters.nd rfl (Or.inl rfl))) (fun _ _ _ _ _ => (pts_one (pt_not (pt_val (pe_call (ok_is_letter T) (hr.mono (by decide)) (by rfl) T.m_is_letter T.F_is_letter.kp (b_is_letter T) .nil pass0 (pa_cons (pv 1) pa_nil)))))) (fun _ _ _ _ _ => (pv 1))) (pe_lst pa_nil) (nomark _)))))), rd_are_letters T vs H Q E h⟩
end
end CP

namespace CP
open PySem L2
section
variable {P : Program} {w : World} {K : PySem.W.Frag} {mg : Str → Option Value} {base : Heap}
def sp_are_named (_ : Txt K mg) : Sp := fun vs H Q _ => match vs with
  | [x] => ∃ p rows, x = .ref p ∧ RowsAt H p rows ∧ Rows rows ∧ ∀ H', Same H H' → Q (.bl true) H'
  | _ => False
def t_are_named (w : World) (T : Txt K mg) : TS := tSeq (tIfS (tOr (tNot (tB (tCB (rIsi K) (tCons (tVar 0) (tCons (tC (.ty "list")) (tNil)))))) (tTest (tOp (rEqX K) (tVar 0) (tLst (tNil))))) (tRet (tC (.bl false))) (tNext)) (tSeq (tAsg (tLst (tNil)) (gName 1)) (tSeq (tFor (iList K (tVar 0)) (gName 2) (tSeq (tIfS (tOr (tNot (tB (tCB (rIsi K) (tCons (tVar 2) (tCons (tC (.ty "tuple")) (tNil)))))) (tOr (tTest (tOp (rEqX K) (tVar 2) (tTup (tNil)))) (tOr (tNot (tB (tCall (sp_is_letter T) [] E0 (tCons (tOp (rIxT K) (tVar 2) (tC (.int 0))) (tNil))))) (tTest (tOp (rIn K false) (tOp (rIxT K) (tVar 2) (tC (.int 0))) (tVar 1)))))) (tRet (tC (.bl false))) (tNext)) (tSeq (tIfS (tTest (tOp (rNeX K) (tLc (iTup K (tSl (rSlA K) (tVar 2) (tPart (tC (.int 1))) tNoPart)) (gName 3) (tNot (tB (tCall (sp_are_letters T) [] E0 (tCons (tVar 3) (tNil))))) (tVar 3) [3]) (tLst (tNil)))) (tRet (tC (.bl false))) (tNext)) (tDrop (tBM K "list" rAppend (tVar 1) (tCons (tOp (rIxT K) (tVar 2) (tC (.int 0))) (tNil))))))) (tRet (tC (.bl true)))))
theorem len_are_named (T : Txt K mg) : ∀ (vs : List V) (H : Hp) (Q : VK) (E : XK), sp_are_named T vs H Q E → vs.length = (["value"] : List Str).length := by
  intro vs H Q E h
  unfold sp_are_named at h
  split at h
  all_goals first | rfl | exact h.elim
theorem rd_are_named (T : Txt K mg) (vs : List V) (H : Hp) (Q : VK) (E : XK) (h : sp_are_named T vs H Q E) : t_are_named w T { nx := fun _ H' => Q .non H', rt := Q } (start ["value", "names", "side", "part"] vs) H := by
  match vs, h with
  | [x], h =>
  obtain ⟨p, rows, rfl, ⟨vs, hp, pr⟩, hR, q⟩ := h
  have sz : sizeLine = 16777216 := rfl
  have few := hR.few
  have vl := pd_len pr
  unfold t_are_named
  walk_at "st"
  repeat walk_at "w"
  refine r_isi (n := "list") (tk_lst hp) (by decide) ?_
  have e1 : ("list" == "list" || "list" == "bool" && "list" == "int") = true := by decide
  rw [e1]
  repeat walk_at "w"
  rename_i L HL L0 sL hL
  have hp1 := CP.Same.to sL hp
  refine nil_eqX (.of hp1) (.of hL) (hR.dp (sides_mono pr sL)) ?_
  have ne : vs.isEmpty = false := by
    cases vs with
    | nil => exact absurd (List.length_eq_zero_iff.mp vl.symm) hR.ne
    | cons _ _ => rfl
  rw [ne]
  repeat walk_at "w"
  rename_i nm HN n0 sN hN
  have pN := sides_mono pr (sL.trans sN)
  have hpN := CP.Same.to sN hp1
  have S0 := sL.trans sN
  have F : H nm = none := sL.free n0
  have pL := sides_mono pr sL
  have hin : ∀ r ∈ rows, r.1 ∈ rows.map (·.1) := fun r hr => List.mem_map.mpr ⟨r, hr, rfl⟩
  refine ⟨p, rfl, ⟨_, .of hpN⟩, for_list (K := K) (a := p) (xs := vs) (fun i σ H' => Same HL H' ∧ H' nm = some (.lst (strL ((rows.take i).map (·.1)))) ∧ ∃ x2 x3, σ = [some (.ref p), some (.ref nm), x2, x3]) ⟨sN, hN, _, _, rfl⟩ (fun _ _ _ _ w => .of (CP.Same.to w.1 hp1)) ?_ ?_⟩
  · rintro i x σ H1 hx ⟨s1, h1, x2, x3, rfl⟩
    obtain ⟨r, t, a, b, hr, hm, rfl, ht, ha, hb⟩ := side_at pL s1 hx
    have ln := hR.name r hm
    have zl := let_len ln
    have la := hR.size r hm
    have lb := hR.step r hm
    repeat walk_at "w"
    refine r_isi (n := "tuple") (tk_tup ht) (by decide) ?_
    have e2 : ("tuple" == "tuple" || "tuple" == "bool" && "tuple" == "int") = true := by decide
    rw [e2]
    repeat walk_at "w"
    rename_i T1 H2 T0 s2 hT
    have sl := side_lay (let_lay ln) la.lay lb.lay
    refine tnil_eqX (.of (CP.Same.to s2 ht)) (.of hT) ⟨[.str r.1, .list (r.2.1.map .str), .list (r.2.2.map .str)], .cons (.str _) (.cons (.lst (.of (CP.Same.to s2 ha)) (dpA_strs _)) (.cons (.lst (.of (CP.Same.to s2 hb)) (dpA_strs _)) .nil)), ?_, ?_⟩ ?_
    · have := sl.1
      simp only [sideD, PyData.canLay0] at this
      exact this
    · have := sl.2
      simp only [sideD, PyData.depth] at this
      omega
    have e3 : ([V.str r.1, .ref a, .ref b] : List V).isEmpty = false := rfl
    rw [e3]
    have ht2 := CP.Same.to s2 ht
    have ha2 := CP.Same.to s2 ha
    have hb2 := CP.Same.to s2 hb
    have h12 := CP.Same.to s2 h1
    repeat walk_at "w"
    refine r_ixT (.of ht2) (v := .str r.1) (by rfl) ?_
    repeat walk_at "w"
    refine ⟨"str", tk_str, .inr ⟨r.1, rfl, rfl, by omega, let_lay ln, fun H3 s3 => ?_⟩⟩
    rw [ln]
    have ht3 := CP.Same.to s3 ht2
    have ha3 := CP.Same.to s3 ha2
    have hb3 := CP.Same.to s3 hb2
    have h13 := CP.Same.to s3 h12
    repeat walk_at "w"
    refine r_ixT (.of ht3) (v := .str r.1) (by rfl) ?_
    repeat walk_at "w"
    refine r_inStr (.of h13) ?_
    have no : r.1 ∉ (rows.take i).map (·.1) := fun z => by
      have := hR.dis
      rw [← List.take_append_drop i rows, List.map_append, List.nodup_append] at this
      refine this.2.2 _ z r.1 (List.mem_map.mpr ⟨r, ?_, rfl⟩) rfl
      rw [List.mem_drop_iff_getElem]
      obtain ⟨hi, e⟩ := List.getElem?_eq_some_iff.mp hr
      exact ⟨0, by omega, by simpa using e⟩
    rw [decide_eq_false no]
    repeat walk_at "w"
    refine r_slA (.of ht3) (fun z => absurd z.1 (by show ¬ (HT.sIx 3 0 (some 1) = 0); decide)) fun P H4 P0 s4 hP => ?_
    have ec : cutV [V.str r.1, .ref a, .ref b] (some 1) none = [.ref a, .ref b] := rfl
    rw [ec] at hP
    have ht4 := CP.Same.to s4 ht3
    have ha4 := CP.Same.to s4 ha3
    have hb4 := CP.Same.to s4 hb3
    have h14 := CP.Same.to s4 h13
    repeat walk_at "w"
    refine ⟨P, rfl, ⟨_, .of hP⟩, fun D hD => lc_tellT (β := V) (fun _ x b => x = b) [none, none] hD (.of hP) rfl (by show 2 < sizeLine; omega) (fun _ _ _ _ _ z => z) (fun j y o H5 hy ho s5 _ N no yes => ?_) fun H5 acc s5 hacc pp => ?_⟩
    · obtain ⟨u, l, rfl, hu, hl⟩ : ∃ u l, y = .ref u ∧ H5 u = some (.lst (strL l)) ∧ Lets l := by
        match j, hy with
        | 0, e => cases e; exact ⟨a, _, rfl, CP.Same.to s5 ha4, la⟩
        | 1, e => cases e; exact ⟨b, _, rfl, CP.Same.to s5 hb4, lb⟩
      have ho : o = none := by
        match j, ho with
        | 0, e => cases e; rfl
        | 1, e => cases e; rfl
      subst ho
      repeat walk_at "w"
      refine ⟨rfl, ?_⟩
      repeat walk_at "w"
      refine ⟨u, l, rfl, hu, hl, fun H6 s6 => ?_⟩
      repeat walk_at "w"
      exact no _ rfl s6
    have ea : acc = [] := pd_eq pp
    rw [ea] at hacc
    repeat walk_at "w"
    rename_i M H6 M0 s6 hM
    refine nil_neX0 (.of (CP.Same.to s6 hacc)) (.of hM) ?_
    repeat walk_at "w"
    have h16 := CP.Same.to s6 (CP.Same.to s5 h14)
    have ht6 := CP.Same.to s6 (CP.Same.to s5 ht4)
    have S := ((((s1.trans s2).trans s3).trans s4).trans s5).trans s6
    refine ⟨.inl ⟨rfl, _, .of h16⟩, ?_⟩
    repeat walk_at "w"
    refine r_ixT (.of ht6) (v := .str r.1) (by rfl) ?_
    repeat walk_at "w"
    refine r_app h16 (by rw [strL_len, List.length_map, List.length_take]; omega) fun H7 b7 h7 => ?_
    refine ⟨CP.Same.sb S n0 b7, ?_, _, _, rfl⟩
    rw [h7, take_succ hr, List.map_append, strL_app]
    rfl
  · rintro σ H1 ⟨s1, h1, x2, x3, rfl⟩
    repeat walk_at "w"
    exact q _ (sL.trans s1)

theorem ok_are_named (T : Txt K mg) : FnOk P w K mg base CX0 3 T.a_are_named T.fd_are_named ["value"] (sp_are_named T) :=
  T.F_are_named.ok sc_are_named (len_are_named T) fun cdv A outer s H vs Q E hr h => ⟨t_are_named w T, (pss_cons (ps_if (PW.pt (pw_or (pt_not (pt_val (pe_callB call_isi (by rfl) T.n_isinstance (by decide +kernel) (pa_cons (pv 0) (pa_cons (pe_bltn (v := .ty "list") (by rfl) T.n_list (by decide +kernel) rfl) pa_nil))))) (pw_or1 (pt_cmpR (op_eqX hr.units) (pv 0) (pe_lst pa_nil) (nomark _))))) (pss_one (ps_ret pe_bl)) pss_nil)
      (pss_cons (ps_set (i := 1) sc_are_named.nd rfl (Or.inl rfl) (pe_lst pa_nil))
      (pss_cons (ps_for PassesOwn.never rfl (pi_list (pv 0)) (pg_name (i := 2) sc_are_named.nd rfl (Or.inl rfl)) (pss_cons (ps_if (PW.pt (pw_or (pt_not (pt_val (pe_callB call_isi (by rfl) T.n_isinstance (by decide +kernel) (pa_cons (pv 2) (pa_cons (pe_bltn (v := .ty "tuple") (by rfl) T.n_tuple (by decide +kernel) rfl) pa_nil))))) (pw_or (pt_cmpR (op_eqX hr.units) (pv 2) (pe_tup pa_nil) (nomark _)) (pw_or (pt_not (pt_val (pe_call (ok_is_letter T) (hr.mono (by decide)) (by rfl) T.m_is_letter T.F_is_letter.kp (b_is_letter T) .nil pass0 (pa_cons (pe_ix ix_tup (pv 2) pe_int (fun _ _ => rfl)) pa_nil)))) (pw_or1 (pt_cmpR op_in_seq (pe_ix ix_tup (pv 2) pe_int (fun _ _ => rfl)) (pv 1) (by rfl))))))) (pss_one (ps_ret pe_bl)) pss_nil)
      (pss_cons (ps_if (pt_cmpR (op_neX hr.units) (pe_lc (own := [("part", 3)]) (g := (gName 3)) (tt := tNot (tB (tCall (sp_are_letters T) [] E0 (tCons (tVar 3) (tNil))))) (te := tVar 3) rfl sc_are_named.nd (pi_tup (pe_slice sl_tupA (pv 2) (po_some pe_int) po_none)) (blkOk_by (own := [("part", 3)]) (N := ["value", "names", "side", "part"]) (sc := defScope s_are_named) (by decide +kernel)) (fun _ _ _ _ _ => (pg_name (i := 3) sc_are_named.nd rfl (Or.inl rfl))) (fun _ _ _ _ _ => (pts_one (pt_not (pt_val (pe_call (ok_are_letters T) (hr.mono (by decide)) (by rfl) T.m_are_letters T.F_are_letters.kp (b_are_letters T) .nil pass0 (pa_cons (pv 3) pa_nil)))))) (fun _ _ _ _ _ => (pv 3))) (pe_lst pa_nil) (nomark _)) (pss_one (ps_ret pe_bl)) pss_nil)
      (pss_one (ps_expr (pe_bm PySem.F.plainAttrs_list PySem.F.slot_list_append PySem.F.type_list_append mt_append (pv 1) (pa_cons (pe_ix ix_tup (pv 2) pe_int (fun _ _ => rfl)) pa_nil)))))))
      (pss_one (ps_ret pe_bl))))), rd_are_named T vs H Q E h⟩
end
end CP

namespace CP
open PySem L2
section
variable {P : Program} {w : World} {K : PySem.W.Frag} {mg : Str → Option Value} {base : Heap}
def sp_are_sides (_ : Txt K mg) : Sp := fun vs H Q _ => match vs with
  | [x, .int n] => n = 2 ∧ ∃ p rows, x = .ref p ∧ RowsAt H p rows ∧ Rows rows ∧ ∀ H', Same H H' → Q (.bl true) H'
  | _ => False
def t_are_sides (w : World) (T : Txt K mg) : TS := tSeq (tIfS (tOr (tNot (tB (tCall (sp_are_named T) [] E0 (tCons (tVar 0) (tNil))))) (tTest (tOp (rNeX K) (tLc (iList K (tVar 0)) (gName 2) (tTest (tOp rNe (tCB (rLenA K) (tCons (tVar 2) (tNil))) (tOp oAdd (tVar 1) (tC (.int 1))))) (tVar 2) [2]) (tLst (tNil))))) (tRet (tC (.bl false))) (tNext)) (tSeq (tAsg (tLc (iList K (tVar 0)) (gName 2) (tYes) (tOp (rIxT K) (tVar 2) (tC (.int 0))) [2]) (gName 3)) (tSeq (tFor (iList K (tVar 0)) (gName 2) (tFor (iTup K (tSl (rSlA K) (tVar 2) (tPart (tC (.int 1))) tNoPart)) (gName 4) (tIfS (tTest (tOp (rNeX K) (tLc (iList K (tVar 4)) (gName 5) (tTest (tOp (rIn K false) (tVar 5) (tVar 3))) (tVar 5) [5]) (tLst (tNil)))) (tRet (tC (.bl false))) (tNext)))) (tRet (tC (.bl true)))))
theorem len_are_sides (T : Txt K mg) : ∀ (vs : List V) (H : Hp) (Q : VK) (E : XK), sp_are_sides T vs H Q E → vs.length = (["value", "parts"] : List Str).length := by
  intro vs H Q E h
  unfold sp_are_sides at h
  split at h
  all_goals first | rfl | exact h.elim
theorem rd_are_sides (T : Txt K mg) (vs : List V) (H : Hp) (Q : VK) (E : XK) (h : sp_are_sides T vs H Q E) : t_are_sides w T { nx := fun _ H' => Q .non H', rt := Q } (start ["value", "parts", "side", "names", "part", "one"] vs) H := by
  match vs, h with
  | [x, .int n], h =>
  obtain ⟨rfl, p, rows, rfl, ⟨vs, hp, pr⟩, hR, q⟩ := h
  have sz : sizeLine = 16777216 := rfl
  have few := hR.few
  have vl := pd_len pr
  unfold t_are_sides
  walk_at "st"
  repeat walk_at "w"
  refine ⟨p, rows, rfl, ⟨vs, hp, pr⟩, hR, fun H1 s1 => ?_⟩
  have p1 := sides_mono pr s1
  have hp1 := CP.Same.to s1 hp
  repeat walk_at "w"
  have vz : vs.length < sizeLine := by omega
  refine ⟨p, rfl, ⟨_, .of hp1⟩, fun D hD => lc_noneL hD (.of hp1) vz (fun i x H2 hx s2 N no yes => ?_) fun H2 s2 hacc => ?_⟩
  · obtain ⟨r, t, a, b, hr, hm, rfl, ht, ha, hb⟩ := side_at p1 s2 hx
    repeat walk_at "w"
    refine ⟨rfl, ?_⟩
    repeat walk_at "w"
    refine if_nd (fun k => absurd rfl k) fun _ => ?_
    exact no _ rfl (Same.refl _)
  repeat walk_at "w"
  rename_i M H3 M0 s3 hM
  refine nil_neX0 (.of (CP.Same.to s3 hacc)) (.of hM) ?_
  have p3 := sides_mono p1 (s2.trans s3)
  have hp3 := CP.Same.to s3 (CP.Same.to s2 hp1)
  have S3 := (s1.trans s2).trans s3
  clear hacc hM s2 s3
  repeat walk_at "w"
  refine ⟨p, rfl, ⟨_, .of hp3⟩, fun D hD => lc_valsL (strL (rows.map (·.1))) hD (.of hp3) (by rw [strL_len, List.length_map, vl]) (by rw [strL_len, List.length_map]; omega) (fun i x y H4 hx hy s4 N no yes => ?_) fun H4 s4 hN => ?_⟩
  · obtain ⟨r, t, a, b, hr, hm, rfl, ht, ha, hb⟩ := side_at p3 s4 hx
    have ey : y = .str r.1 := by
      unfold strL at hy
      rw [List.getElem?_map, List.getElem?_map, hr] at hy
      exact (Option.some.inj hy).symm
    subst ey
    repeat walk_at "w"
    refine ⟨rfl, r_yes (if_t ?_)⟩
    repeat walk_at "w"
    refine r_ixT (.of ht) (v := .str r.1) (by rfl) ?_
    exact yes _ _ _ rfl (Same.refl _) rfl
  have p4 := sides_mono p3 s4
  have hp4 := CP.Same.to s4 hp3
  repeat walk_at "w"
  refine ⟨p, rfl, ⟨_, .of hp4⟩, for_list (K := K) (a := p) (xs := vs) (fun i σ H' => Same H4 H' ∧ ∃ x2 x4 x5, σ = [some (.ref p), some (.int 2), x2, some (.ref D), x4, x5]) ⟨Same.refl _, _, _, _, rfl⟩ (fun _ _ _ _ w => .of (CP.Same.to w.1 hp4)) ?_ ?_⟩
  · rintro i x σ H5 hx ⟨s5, x2, x4, x5, rfl⟩
    obtain ⟨r, t, a, b, hr, hm, rfl, ht, ha, hb⟩ := side_at p4 s5 hx
    have hN5 := CP.Same.to s5 hN
    repeat walk_at "w"
    refine r_slA (.of ht) (fun z => absurd z.1 (by show ¬ (HT.sIx 3 0 (some 1) = 0); decide)) fun P H6 P0 s6 hP => ?_
    have ec : cutV [V.str r.1, .ref a, .ref b] (some 1) none = [.ref a, .ref b] := rfl
    rw [ec] at hP
    have ha6 := CP.Same.to s6 ha
    have hb6 := CP.Same.to s6 hb
    have hN6 := CP.Same.to s6 hN5
    repeat walk_at "w"
    refine ⟨P, rfl, ⟨_, .of hP⟩, for_tup (K := K) (a := P) (xs := [.ref a, .ref b]) (fun j σ H' => Same H6 H' ∧ ∃ x4 x5, σ = [some (.ref p), some (.int 2), some (.ref t), some (.ref D), x4, x5]) ⟨Same.refl _, _, _, rfl⟩ (fun _ _ _ _ w => .of (CP.Same.to w.1 hP)) ?_ ?_⟩
    · rintro j y σ H7 hy ⟨s7, x4, x5, rfl⟩
      obtain ⟨u, l, rfl, hu, hl, ho⟩ : ∃ u l, y = .ref u ∧ H7 u = some (.lst (strL l)) ∧ l.length ≤ 30 ∧ ∀ x ∈ l, x ∉ rows.map (·.1) := by
        match j, hy with
        | 0, e => cases e; exact ⟨a, _, rfl, CP.Same.to s7 ha6, (hR.size r hm).2, fun x hx => hR.out r hm x (List.mem_append_left _ hx)⟩
        | 1, e => cases e; exact ⟨b, _, rfl, CP.Same.to s7 hb6, (hR.step r hm).2, fun x hx => hR.out r hm x (List.mem_append_right _ hx)⟩
      have hN7 := CP.Same.to s7 hN6
      repeat walk_at "w"
      refine ⟨u, rfl, ⟨_, .of hu⟩, fun D2 hD2 => lc_noneL hD2 (.of hu) (by rw [strL_len]; omega) (fun k z H8 hz s8 N no yes => ?_) fun H8 s8 hacc => ?_⟩
      · obtain ⟨w0, hw, rfl⟩ := strL_get hz
        have nw := ho w0 (List.mem_of_getElem? hw)
        have hN8 := CP.Same.to s8 hN7
        repeat walk_at "w"
        refine ⟨rfl, ?_⟩
        repeat walk_at "w"
        refine r_inStr (.of hN8) ?_
        rw [decide_eq_false nw]
        repeat walk_at "w"
        exact no _ rfl (Same.refl _)
      repeat walk_at "w"
      rename_i L H9 L0 s9 hL
      refine nil_neX0 (.of (CP.Same.to s9 hacc)) (.of hL) ?_
      repeat walk_at "w"
      exact ⟨(s7.trans s8).trans s9, _, _, rfl⟩
    · rintro σ H7 ⟨s7, x4, x5, rfl⟩
      exact ⟨(s5.trans s6).trans s7, _, _, _, rfl⟩
  · rintro σ H5 ⟨s5, x2, x4, x5, rfl⟩
    repeat walk_at "w"
    exact q _ ((S3.trans s4).trans s5)

theorem ok_are_sides (T : Txt K mg) : FnOk P w K mg base CX0 4 T.a_are_sides T.fd_are_sides ["value", "parts"] (sp_are_sides T) :=
  T.F_are_sides.ok sc_are_sides (len_are_sides T) fun cdv A outer s H vs Q E hr h => ⟨t_are_sides w T, (pss_cons (ps_if (PW.pt (pw_or (pt_not (pt_val (pe_call (ok_are_named T) (hr.mono (by decide)) (by rfl) T.m_are_named T.F_are_named.kp (b_are_named T) .nil pass0 (pa_cons (pv 0) pa_nil)))) (pw_or1 (pt_cmpR (op_neX hr.units) (pe_lc (own := [("side", 2)]) (g := (gName 2)) (tt := tTest (tOp rNe (tCB (rLenA K) (tCons (tVar 2) (tNil))) (tOp oAdd (tVar 1) (tC (.int 1))))) (te := tVar 2) rfl sc_are_sides.nd (pi_list (pv 0)) (blkOk_by (own := [("side", 2)]) (N := ["value", "parts", "side", "names", "part", "one"]) (sc := defScope s_are_sides) (by decide +kernel)) (fun _ _ _ _ _ => (pg_name (i := 2) sc_are_sides.nd rfl (Or.inl rfl))) (fun _ _ _ _ _ => (pts_one (pt_cmpR op_ne (pe_callB call_lenA (by rfl) T.n_len (by decide +kernel) (pa_cons (pv 2) pa_nil)) (pe_op op_add (pv 1) pe_int) (nomark _)))) (fun _ _ _ _ _ => (pv 2))) (pe_lst pa_nil) (nomark _))))) (pss_one (ps_ret pe_bl)) pss_nil)
      (pss_cons (ps_set (i := 3) sc_are_sides.nd rfl (Or.inr rfl) (pe_lc (own := [("side", 2)]) (g := (gName 2)) (tt := tYes) (te := tOp (rIxT K) (tVar 2) (tC (.int 0))) rfl sc_are_sides.nd (pi_list (pv 0)) (blkOk_by (own := [("side", 2)]) (N := ["value", "parts", "side", "names", "part", "one"]) (sc := defScope s_are_sides) (by decide +kernel)) (fun _ _ _ _ _ => (pg_name (i := 2) sc_are_sides.nd rfl (Or.inl rfl))) (fun _ _ _ _ _ => pts_nil) (fun _ _ _ _ _ => (pe_ix ix_tup (pv 2) pe_int (fun _ _ => rfl)))))
      (pss_cons (ps_for PassesOwn.never rfl (pi_list (pv 0)) (pg_name (i := 2) sc_are_sides.nd rfl (Or.inl rfl)) (pss_one (ps_for PassesOwn.never rfl (pi_tup (pe_slice sl_tupA (pv 2) (po_some pe_int) po_none)) (pg_name (i := 4) sc_are_sides.nd rfl (Or.inl rfl)) (pss_one (ps_if (pt_cmpR (op_neX hr.units) (pe_lc (own := [("one", 5)]) (g := (gName 5)) (tt := tTest (tOp (rIn K false) (tVar 5) (tVar 3))) (te := tVar 5) rfl sc_are_sides.nd (pi_list (pv 4)) (blkOk_by (own := [("one", 5)]) (N := ["value", "parts", "side", "names", "part", "one"]) (sc := defScope s_are_sides) (by decide +kernel)) (fun _ _ _ _ _ => (pg_name (i := 5) sc_are_sides.nd rfl (Or.inl rfl))) (fun _ _ _ _ _ => (pts_one (pt_cmpR op_in_seq (pv 5) (pv 3) (by rfl)))) (fun _ _ _ _ _ => (pv 5))) (pe_lst pa_nil) (nomark _)) (pss_one (ps_ret pe_bl)) pss_nil)))))
      (pss_one (ps_ret pe_bl))))), rd_are_sides T vs H Q E h⟩
end
end CP

namespace CP
open PySem L2
section
variable {P : Program} {w : World} {K : PySem.W.Frag} {mg : Str → Option Value} {base : Heap}
def sp_valued (_ : Txt K mg) : Sp := fun vs H Q _ => match vs with
  | [.ref a, .ref d] => ∃ l kvs f, H a = some (.lst (strL l)) ∧ H d = some (.dK kvs) ∧ (∀ k ∈ l, valV kvs (Sum.inr k) = some (.int (f k)) ∧ 0 ≤ f k ∧ f k < 2 ^ 400) ∧ (∀ i, i ≤ l.length → prodF f (l.take i) < 2 ^ 400) ∧ Q (.int (prodF f l)) H
  | _ => False
def t_valued (w : World) (T : Txt K mg) : TS := tSeq (tAsg (tC (.int 1)) (gName 2)) (tSeq (tFor (iList K (tVar 0)) (gName 3) (tAsg (tOp oMul (tVar 2) (tDGet (tVar 1) (tVar 3))) (gName 2))) (tRet (tVar 2)))
theorem len_valued (T : Txt K mg) : ∀ (vs : List V) (H : Hp) (Q : VK) (E : XK), sp_valued T vs H Q E → vs.length = (["letters", "values"] : List Str).length := by
  intro vs H Q E h
  unfold sp_valued at h
  split at h
  all_goals first | rfl | exact h.elim
theorem rd_valued (T : Txt K mg) (vs : List V) (H : Hp) (Q : VK) (E : XK) (h : sp_valued T vs H Q E) : t_valued w T { nx := fun _ H' => Q .non H', rt := Q } (start ["letters", "values", "found", "name"] vs) H := by
  match vs, h with
  | [.ref a, .ref d], h =>
  obtain ⟨l, kvs, f, ha, hd, hf, hz, q⟩ := h
  have sz : sizeLine = 16777216 := rfl
  unfold t_valued
  walk_at "st"
  repeat walk_at "w"
  refine ⟨a, rfl, ⟨_, .of ha⟩, for_list (K := K) (a := a) (xs := strL l) (fun i σ H' => H' = H ∧ ∃ x3, σ = [some (.ref a), some (.ref d), some (.int (prodF f (l.take i))), x3]) ⟨rfl, _, rfl⟩ (fun _ _ _ _ w => by rw [w.1]; exact .of ha) ?_ ?_⟩
  · rintro i x σ H2 hx ⟨rfl, x3, rfl⟩
    obtain ⟨k, hk, rfl⟩ := strL_get hx
    obtain ⟨g1, g2, g3⟩ := hf k (List.mem_of_getElem? hk)
    have b1 := hz i (by have := (List.getElem?_eq_some_iff.mp hk).1; omega)
    have b0 : 0 ≤ prodF f (l.take i) := prodF_pos fun x hx => (hf x (List.mem_of_mem_take hx)).2.1
    rw [take_succ hk, prodF_app]
    generalize prodF f (l.take i) = w at b0 b1 ⊢
    repeat walk_at "w"
    refine r_dgetS hd g1 ?_
    repeat walk_at "w"
    exact ⟨rfl, _, rfl⟩
  · rintro σ H2 ⟨rfl, x3, rfl⟩
    rw [strL_len, List.take_length]
    repeat walk_at "w"
    exact q

theorem ok_valued (T : Txt K mg) : FnOk P w K mg base CX0 1 T.a_valued T.fd_valued ["letters", "values"] (sp_valued T) :=
  T.F_valued.ok sc_valued (len_valued T) fun cdv A outer s H vs Q E hr h => ⟨t_valued w T, (pss_cons (ps_set (i := 2) sc_valued.nd rfl (Or.inl rfl) pe_int)
      (pss_cons (ps_for PassesOwn.never rfl (pi_list (pv 0)) (pg_name (i := 3) sc_valued.nd rfl (Or.inl rfl)) (pss_one (ps_set (i := 2) sc_valued.nd rfl (Or.inl rfl) (pe_op op_mulW (pv 2) (pe_dget (hu_of hr) (pv 1) (pv 3) (fun _ _ => rfl))))))
      (pss_one (ps_ret (pv 2))))), rd_valued T vs H Q E h⟩
end
end CP

namespace CP
open PySem L2
section
variable {P : Program} {w : World} {K : PySem.W.Frag} {mg : Str → Option Value} {base : Heap}
def sp_rest_of (_ : Txt K mg) : Sp := fun vs H Q _ => match vs with
  | [.ref a, .ref b] => ∃ l o, H a = some (.lst (strL l)) ∧ H b = some (.lst (strL o)) ∧ l.length ≤ 1000 ∧ o.length ≤ 1000 ∧ (∀ m p H', restOf l o = some m → H p = none → Same H H' → H' p = some (.lst (strL m)) → Q (.ref p) H') ∧ (∀ H', restOf l o = none → Same H H' → Q .non H')
  | _ => False
def t_rest_of (w : World) (T : Txt K mg) : TS := tSeq (tAsg (tCB ((oList K)) (tCons (tVar 0) (tNil))) (gName 2)) (tSeq (tFor (iList K (tVar 1)) (gName 3) (tSeq (tIfS (tTest (tOp (rIn K true) (tVar 3) (tVar 2))) (tRet (tC .non)) (tNext)) (tDrop (tBM K "list" rRemS (tVar 2) (tCons (tVar 3) (tNil)))))) (tRet (tVar 2)))
theorem len_rest_of (T : Txt K mg) : ∀ (vs : List V) (H : Hp) (Q : VK) (E : XK), sp_rest_of T vs H Q E → vs.length = (["letters", "others"] : List Str).length := by
  intro vs H Q E h
  unfold sp_rest_of at h
  split at h
  all_goals first | rfl | exact h.elim
theorem rd_rest_of (T : Txt K mg) (vs : List V) (H : Hp) (Q : VK) (E : XK) (h : sp_rest_of T vs H Q E) : t_rest_of w T { nx := fun _ H' => Q .non H', rt := Q } (start ["letters", "others", "left", "name"] vs) H := by
  match vs, h with
  | [.ref a, .ref b], h =>
  obtain ⟨l, o, ha, hb, hl, ho, q1, q2⟩ := h
  have sz : sizeLine = 16777216 := rfl
  unfold t_rest_of
  walk_at "st"
  repeat walk_at "w"
  rename_i p H1 p0 s1 hp
  refine ⟨b, rfl, ⟨_, .of (CP.Same.to s1 hb)⟩, for_list (K := K) (a := b) (xs := strL o) (fun i σ H' => Same H H' ∧ (∃ m, H' p = some (.lst (strL m)) ∧ m.length ≤ l.length ∧ restOf l o = restOf m (o.drop i)) ∧ ∃ x3, σ = [some (.ref a), some (.ref b), some (.ref p), x3]) ⟨s1, ⟨l, hp, Nat.le_refl _, rfl⟩, _, rfl⟩ (fun _ _ _ _ w => .of (CP.Same.to w.1 hb)) ?_ ?_⟩
  · rintro i x σ H2 hx ⟨s2, ⟨m, hm, ml, e⟩, x3, rfl⟩
    obtain ⟨k, hk, rfl⟩ := strL_get hx
    rw [drop_succ hk, restOf] at e
    repeat walk_at "w"
    refine r_niStr (.of hm) ?_
    by_cases hm2 : k ∈ m
    · rw [decide_eq_true hm2]
      repeat walk_at "w"
      refine ⟨.inl ⟨rfl, _, .of hm⟩, ?_⟩
      repeat walk_at "w"
      refine r_remS hm hm2 fun H3 b3 h3 => ?_
      repeat walk_at "w"
      exact ⟨CP.Same.sb s2 p0 b3, ⟨_, h3, by have := List.length_erase_le (a := k) (l := m); omega, by rw [e, if_pos hm2]⟩, _, rfl⟩
    · rw [decide_eq_false hm2]
      repeat walk_at "w"
      exact q2 _ (by rw [e, if_neg hm2]) s2
  · rintro σ H2 ⟨s2, ⟨m, hm, ml, e⟩, x3, rfl⟩
    rw [strL_len, List.drop_length] at e
    repeat walk_at "w"
    exact q1 m p H2 e p0 s2 hm

theorem ok_rest_of (T : Txt K mg) : FnOk P w K mg base CX0 1 T.a_rest_of T.fd_rest_of ["letters", "others"] (sp_rest_of T) :=
  T.F_rest_of.ok sc_rest_of (len_rest_of T) fun cdv A outer s H vs Q E hr h => ⟨t_rest_of w T, (pss_cons (ps_set (i := 2) sc_rest_of.nd rfl (Or.inl rfl) (pe_callTy call_listA (by rfl) T.n_list (by decide +kernel) (pa_cons (pv 0) pa_nil)))
      (pss_cons (ps_for PassesOwn.never rfl (pi_list (pv 1)) (pg_name (i := 3) sc_rest_of.nd rfl (Or.inl rfl)) (pss_cons (ps_if (pt_cmpR op_notIn_seq (pv 3) (pv 2) (by rfl)) (pss_one (ps_ret pe_non)) pss_nil)
      (pss_one (ps_expr (pe_bm PySem.F.plainAttrs_list PySem.F.slot_list_remove PySem.F.type_list_remove mt_remS (pv 2) (pa_cons (pv 3) pa_nil))))))
      (pss_one (ps_ret (pv 2))))), rd_rest_of T vs H Q E h⟩
end
end CP

namespace CP
open PySem L2
section
variable {P : Program} {w : World} {K : PySem.W.Frag} {mg : Str → Option Value} {base : Heap}
def sp_Plain___init (T : Txt K mg) : Sp := fun vs H Q _ => match vs with
  | [.ref o, x] => ∃ dx p rows, x = .ref p ∧ H o = some (.ins T.a_Plain dx []) ∧ RowsAt H p rows ∧ Rows rows ∧ ∀ H', SB o H H' → TabAt T.a_Plain H' o (rows.map srow) → Q .non H'
  | _ => False
def t_Plain___init (w : World) (T : Txt K mg) : TS := tSeq (tIfS (tNot (tB (tCall (sp_are_sides T) [] E0 (tCons (tVar 1) (tCons (tC (.int 2)) (tNil)))))) (tNever) (tNext)) (sFld K (tVar 0) (tLc (iList K (tVar 1)) (gTup K 3 (gCons (gName 2) (gCons (gName 3) (gCons (gName 4) gNil)))) (tYes) (tTup (tCons (tVar 2) (tCons (tCB (rSortedS K) (tCons (tVar 3) (tNil))) (tCons (tCB (rSortedS K) (tCons (tVar 4) (tNil))) (tNil))))) [2, 3, 4]) "row")
theorem len_Plain___init (T : Txt K mg) : ∀ (vs : List V) (H : Hp) (Q : VK) (E : XK), sp_Plain___init T vs H Q E → vs.length = (["self", "sides"] : List Str).length := by
  intro vs H Q E h
  unfold sp_Plain___init at h
  split at h
  all_goals first | rfl | exact h.elim
theorem rd_Plain___init (T : Txt K mg) (vs : List V) (H : Hp) (Q : VK) (E : XK) (h : sp_Plain___init T vs H Q E) : t_Plain___init w T { nx := fun _ H' => Q .non H', rt := Q } (start ["self", "sides", "name", "size", "step"] vs) H := by
  match vs, h with
  | [.ref o, x], h =>
  obtain ⟨dx, p, rows, rfl, ho, hp, hR, q⟩ := h
  have sz : sizeLine = 16777216 := rfl
  have few := hR.few
  unfold t_Plain___init
  walk_at "st"
  repeat walk_at "w"
  refine ⟨rfl, p, rows, rfl, hp, hR, fun H1 s1 => ?_⟩
  obtain ⟨vs, hp1, pr⟩ := hp.mono s1
  have vl := pd_len pr
  have ho1 := CP.Same.to s1 ho
  repeat walk_at "w"
  refine ⟨p, rfl, ⟨_, .of hp1⟩, fun D hD => lc_tell (β := Sd) SideAt ((rows.map srow).map some) hD (.of hp1) (by simp [vl]) (by simp; omega) (fun _ _ _ _ s z => SideAt.mono z s) (fun i x y H2 hx hy s2 hacc N no yes => ?_) fun H2 acc s2 hacc pp => ?_⟩
  · obtain ⟨r, t, a, b, hr, hm, rfl, ht, ha, hb⟩ := side_at pr s2 hx
    have ey : y = some (srow r) := by
      rw [List.getElem?_map, List.getElem?_map, hr] at hy
      exact (Option.some.inj hy).symm
    subst ey
    obtain ⟨acc, hacc⟩ := hacc
    have la := (hR.size r hm).2
    have lb := (hR.step r hm).2
    repeat walk_at "w"
    refine ⟨rfl, r_yes (if_t ?_)⟩
    repeat walk_at "w"
    refine r_sortS (.of ha) (by omega) fun a2 H3 a20 s3 ha2 => ?_
    repeat walk_at "w"
    refine r_sortS (.of (CP.Same.to s3 hb)) (by omega) fun b2 H4 b20 s4 hb2 => ?_
    repeat walk_at "w"
    rename_i t5 H5 t50 s5 ht5
    have hD3 := CP.Same.to s3 hacc
    have hD4 := CP.Same.to s4 hD3
    refine yes H5 _ _ rfl ((s3.trans s4).trans s5) ⟨t5, a2, b2, rfl, ?_, ?_, ?_⟩
    · rw [hide_ne (ne_of_none hD4 t50).symm]; exact ht5
    · rw [hide_ne (ne_of_none hacc a20).symm]; exact CP.Same.to s5 (CP.Same.to s4 ha2)
    · rw [hide_ne (ne_of_none hD3 b20).symm]; exact CP.Same.to s5 hb2
  have ef : ((rows.map srow).map some).filterMap id = rows.map srow := by
    rw [List.filterMap_map]
    exact List.filterMap_some
  rw [ef] at pp
  have ho2 := CP.Same.to s2 ho1
  have oD : D ≠ o := (ne_of_none ho1 hD).symm
  repeat walk_at "w"
  refine r_fput ho2 T.c_Plain T.n_Plain_row (by decide) fun H3 b3 h3 => ?_
  refine q H3 (fun b u hb e => b3 b u hb (s2 _ _ (s1 _ _ e))) ⟨dx, D, h3, acc, b3 _ _ oD hacc, ?_⟩
  refine pd_mono pp fun v r z => ?_
  obtain ⟨t, a, b, e, h1, h2, h3⟩ := z
  have nt : ∀ {c u}, H2 c = some u → u ≠ .ins T.a_Plain dx [] → c ≠ o := fun {c u} h n e => n (by rw [e, ho2] at h; exact (Option.some.inj h).symm)
  exact ⟨t, a, b, e, b3 _ _ (nt h1 (fun z => nomatch z)) h1, b3 _ _ (nt h2 (fun z => nomatch z)) h2, b3 _ _ (nt h3 (fun z => nomatch z)) h3⟩

theorem ok_Plain___init (T : Txt K mg) : FnOk P w K mg base CX0 5 T.a_Plain___init T.fd_Plain___init ["self", "sides"] (sp_Plain___init T) :=
  T.F_Plain___init.ok sc_Plain___init (len_Plain___init T) fun cdv A outer s H vs Q E hr h => ⟨t_Plain___init w T, (pss_cons (ps_if (pt_not (pt_val (pe_call (ok_are_sides T) (hr.mono (by decide)) (by rfl) T.m_are_sides T.F_are_sides.kp (b_are_sides T) .nil pass0 (pa_cons (pv 1) (pa_cons pe_int pa_nil))))) (pss_one ps_never) pss_nil)
      (pss_one (ps_fld (pv 0) (pe_lc (own := [("name", 2), ("size", 3), ("step", 4)]) (g := (gTup K 3 (gCons (gName 2) (gCons (gName 3) (gCons (gName 4) gNil))))) (tt := tYes) (te := tTup (tCons (tVar 2) (tCons (tCB (rSortedS K) (tCons (tVar 3) (tNil))) (tCons (tCB (rSortedS K) (tCons (tVar 4) (tNil))) (tNil))))) rfl sc_Plain___init.nd (pi_list (pv 1)) (blkOk_by (own := [("name", 2), ("size", 3), ("step", 4)]) (N := ["self", "sides", "name", "size", "step"]) (sc := defScope s_Plain___init) (by decide +kernel)) (fun _ _ _ _ _ => (pg_tup rfl (pgs_cons (pg_name (i := 2) sc_Plain___init.nd rfl (Or.inl rfl)) (pgs_cons (pg_name (i := 3) sc_Plain___init.nd rfl (Or.inl rfl)) (pgs_cons (pg_name (i := 4) sc_Plain___init.nd rfl (Or.inl rfl)) pgs_nil))))) (fun _ _ _ _ _ => pts_nil) (fun _ _ _ _ _ => (pe_tup (pa_cons (pv 2) (pa_cons (pe_callB cr_sortedS (by rfl) T.n_sorted (by decide +kernel) (pa_cons (pv 3) pa_nil)) (pa_cons (pe_callB cr_sortedS (by rfl) T.n_sorted (by decide +kernel) (pa_cons (pv 4) pa_nil)) pa_nil)))))) rfl))), rd_Plain___init T vs H Q E h⟩
end
end CP

namespace CP
open PySem L2
section
variable {P : Program} {w : World} {K : PySem.W.Frag} {mg : Str → Option Value} {base : Heap}
def sp_Plain_sizes (T : Txt K mg) : Sp := fun vs H Q _ => match vs with
  | [.ref o] => ∃ rows, TabAt T.a_Plain H o rows ∧ Rows rows ∧ ∀ p H', H p = none → Same H H' → H' p = some (.lst (strL (sizesM rows))) → Q (.ref p) H'
  | _ => False
def t_Plain_sizes (w : World) (T : Txt K mg) : TS := tSeq (tAsg (tLst (tNil)) (gName 1)) (tSeq (tFor (iList K (tFld K (tVar 0) "row")) (gTup K 3 (gCons (gName 2) (gCons (gName 3) (gCons (gName 4) gNil)))) (tAsg (tOp rCat (tVar 1) (tLc (iList K (tOp rCat (tVar 3) (tVar 4))) (gName 5) (tTest (tOp (rIn K true) (tVar 5) (tVar 1))) (tVar 5) [5])) (gName 1))) (tRet (tCB (rSortT w) (tCons (tCB (rSetT K w) (tCons (tVar 1) (tNil))) (tNil)))))
theorem len_Plain_sizes (T : Txt K mg) : ∀ (vs : List V) (H : Hp) (Q : VK) (E : XK), sp_Plain_sizes T vs H Q E → vs.length = (["self"] : List Str).length := by
  intro vs H Q E h
  unfold sp_Plain_sizes at h
  split at h
  all_goals first | rfl | exact h.elim
theorem rd_Plain_sizes (T : Txt K mg) (vs : List V) (H : Hp) (Q : VK) (E : XK) (h : sp_Plain_sizes T vs H Q E) : t_Plain_sizes w T { nx := fun _ H' => Q .non H', rt := Q } (start ["self", "found", "name", "size", "step", "one"] vs) H := by
  match vs, h with
  | [.ref o], h =>
  obtain ⟨rows, ⟨dx, p, ho, vs, hp, pr⟩, hR, q⟩ := h
  have sz : sizeLine = 16777216 := rfl
  have few := hR.few
  have vl := pd_len pr
  unfold t_Plain_sizes
  walk_at "st"
  repeat walk_at "w"
  rename_i f0 H1 f00 s1 hf0
  have ho1 := CP.Same.to s1 ho
  have hp1 := CP.Same.to s1 hp
  have p1 := sides_mono pr s1
  refine r_fget ho1 T.c_Plain T.n_Plain_row (by rfl) ?_
  refine ⟨p, rfl, ⟨_, .of hp1⟩, for_list (K := K) (a := p) (xs := vs) (fun i σ H' => Same H1 H' ∧ (∃ f l, H' f = some (.lst (strL l)) ∧ l.length ≤ 60 * i ∧ (∀ x, x ∈ l ↔ x ∈ (rows.take i).flatMap fun r => r.2.1 ++ r.2.2) ∧ σ[1]? = some (some (.ref f))) ∧ ∃ x1 x2 x3 x4 x5, σ = [some (.ref o), x1, x2, x3, x4, x5]) ⟨Same.refl _, ⟨f0, [], hf0, by simp, by simp, rfl⟩, _, _, _, _, _, rfl⟩ (fun _ _ _ _ w => .of (CP.Same.to w.1 hp1)) ?_ ?_⟩
  · rintro i x σ H2 hx ⟨s2, ⟨f, l, hf, hl, hm, hσ⟩, x1, x2, x3, x4, x5, rfl⟩
    obtain ⟨rfl⟩ : x1 = some (.ref f) := Option.some.inj hσ
    obtain ⟨r, t, a, b, hr, hm2, rfl, ht, ha, hb⟩ := side_at p1 s2 hx
    have la := (hR.size r hm2).2
    have lb := (hR.step r hm2).2
    have hi : i < rows.length := (List.getElem?_eq_some_iff.mp hr).1
    repeat walk_at "w"
    refine r_cat ha hb (by rw [strL_len, strL_len]; omega) fun c H3 c0 s3 hc => ?_
    rw [← strL_app] at hc
    have hf3 := CP.Same.to s3 hf
    refine ⟨c, rfl, ⟨_, .of hc⟩, fun D hD => lc_strF (fun y => !decide (y ∈ l)) hD (.of hc) (by rw [List.length_append]; omega) (fun k y H4 hy s4 N no yes => ?_) fun H4 s4 hacc => ?_⟩
    · repeat walk_at "w"
      refine ⟨rfl, ?_⟩
      repeat walk_at "w"
      refine r_niStr (.of (CP.Same.to s4 hf3)) ?_
      repeat walk_at "w"
      dsimp only at no yes
      cases e : decide (y ∈ l) with
      | true => rw [e] at no; exact if_nf (no _ rfl (Same.refl _))
      | false =>
        rw [e] at yes
        refine if_nt ?_
        repeat walk_at "w"
        exact yes _ _ _ rfl (Same.refl _) rfl
    have hf4 := CP.Same.to s4 hf3
    refine r_cat hf4 hacc (by rw [strL_len, strL_len]; have := List.length_filter_le (fun y => !decide (y ∈ l)) (r.2.1 ++ r.2.2); rw [List.length_append] at this; omega) fun e H5 e0 s5 he => ?_
    rw [← strL_app] at he
    repeat walk_at "w"
    refine ⟨((s2.trans s3).trans s4).trans s5, ⟨e, _, he, ?_, fun y => ?_, rfl⟩, _, _, _, _, _, rfl⟩
    · have := List.length_filter_le (fun y => !decide (y ∈ l)) (r.2.1 ++ r.2.2)
      rw [List.length_append] at this ⊢
      omega
    · rw [take_succ hr, List.flatMap_append, List.mem_append, List.mem_append, ← hm, List.mem_filter]
      simp only [List.flatMap_cons, List.flatMap_nil, List.append_nil]
      by_cases k : y ∈ l
      · simp [k]
      · simp [k]
  · rintro σ H2 ⟨s2, ⟨f, l, hf, hl, hm, hσ⟩, x1, x2, x3, x4, x5, rfl⟩
    obtain ⟨rfl⟩ : x1 = some (.ref f) := Option.some.inj hσ
    rw [vl, List.take_length] at hm
    repeat walk_at "w"
    refine r_sortSetT (.of hf) (by omega) fun ys p3 H3 h1 h2 h3 s3 h4 h5 => ?_
    have e : ys = sizesM rows := sset_of h1 h2 fun x => (h3 x).trans (hm x)
    rw [e] at h5
    exact q p3 H3 ((s1.trans s2).free h4) ((s1.trans s2).trans s3) h5

theorem ok_Plain_sizes (T : Txt K mg) : FnOk P w K mg base CX0 1 T.a_Plain_sizes T.fd_Plain_sizes ["self"] (sp_Plain_sizes T) :=
  T.F_Plain_sizes.ok sc_Plain_sizes (len_Plain_sizes T) fun cdv A outer s H vs Q E hr h => ⟨t_Plain_sizes w T, (pss_cons (ps_set (i := 1) sc_Plain_sizes.nd rfl (Or.inr rfl) (pe_lst pa_nil))
      (pss_cons (ps_for PassesOwn.never rfl (pi_list (pe_fld (pv 0) rfl)) (pg_tup rfl (pgs_cons (pg_name (i := 2) sc_Plain_sizes.nd rfl (Or.inl rfl)) (pgs_cons (pg_name (i := 3) sc_Plain_sizes.nd rfl (Or.inl rfl)) (pgs_cons (pg_name (i := 4) sc_Plain_sizes.nd rfl (Or.inl rfl)) pgs_nil)))) (pss_one (ps_set (i := 1) sc_Plain_sizes.nd rfl (Or.inr rfl) (pe_op op_cat (pv 1) (pe_lc (own := [("one", 5)]) (g := (gName 5)) (tt := tTest (tOp (rIn K true) (tVar 5) (tVar 1))) (te := tVar 5) rfl sc_Plain_sizes.nd (pi_list (pe_op op_cat (pv 3) (pv 4))) (blkOk_by (own := [("one", 5)]) (N := ["self", "found", "name", "size", "step", "one"]) (sc := defScope s_Plain_sizes) (by decide +kernel)) (fun _ _ _ _ _ => (pg_name (i := 5) sc_Plain_sizes.nd rfl (Or.inl rfl))) (fun _ _ _ _ _ => (pts_one (pt_cmpR op_notIn_seq (pv 5) (pv 1) (by rfl)))) (fun _ _ _ _ _ => (pv 5)))))))
      (pss_one (ps_ret (pe_callB (cr_sortT rfl) (by rfl) T.n_sorted (by decide +kernel) (pa_cons (pe_callTy (cr_setT rfl) (by rfl) T.n_set (by decide +kernel) (pa_cons (pv 1) pa_nil)) pa_nil)))))), rd_Plain_sizes T vs H Q E h⟩
end
end CP

namespace CP
open PySem L2
section
variable {P : Program} {w : World} {K : PySem.W.Frag} {mg : Str → Option Value} {base : Heap}
def sp_Plain___eq (T : Txt K mg) : Sp := fun vs H Q _ => match vs with
  | [.ref o, .ref u] => ∃ rs ss, TabAt T.a_Plain H o rs ∧ TabAt T.a_Plain H u ss ∧ Rows rs ∧ Rows ss ∧ Q (.bl (decide (rs = ss))) H
  | _ => False
def t_Plain___eq (w : World) (T : Txt K mg) : TS := tRet (tAndV (tCB (rIsi K) (tCons (tVar 1) (tCons (tC (.ref T.a_Plain)) (tNil)))) (tOp (rEqX K) (tFld K (tVar 0) "row") (tFld K (tVar 1) "row")))
theorem len_Plain___eq (T : Txt K mg) : ∀ (vs : List V) (H : Hp) (Q : VK) (E : XK), sp_Plain___eq T vs H Q E → vs.length = (["self", "other"] : List Str).length := by
  intro vs H Q E h
  unfold sp_Plain___eq at h
  split at h
  all_goals first | rfl | exact h.elim
theorem rd_Plain___eq (T : Txt K mg) (vs : List V) (H : Hp) (Q : VK) (E : XK) (h : sp_Plain___eq T vs H Q E) : t_Plain___eq w T { nx := fun _ H' => Q .non H', rt := Q } (start ["self", "other"] vs) H := by
  match vs, h with
  | [.ref o, .ref u], h =>
  obtain ⟨rs, ss, ⟨dx, p, ho, vs, hp, pr⟩, ⟨dy, p2, hu, vs2, hp2, pr2⟩, hR, hS, q⟩ := h
  unfold t_Plain___eq
  walk_at "st"
  repeat walk_at "w"
  refine r_isiC hu T.I_Plain ?_
  refine ⟨true, rfl, if_t ?_⟩
  repeat walk_at "w"
  refine r_fget ho T.c_Plain T.n_Plain_row (by rfl) ?_
  repeat walk_at "w"
  refine r_fget hu T.c_Plain T.n_Plain_row (by rfl) ?_
  obtain ⟨l1, l2⟩ := rows_lay hR.lay
  obtain ⟨m1, m2⟩ := rows_lay hS.lay
  refine eqX_d (.lst (.of hp) (rows_dp pr)) (.lst (.of hp2) (rows_dp pr2)) (by simp only [PyData.canLay0]; exact l1) (by simp only [PyData.canLay0]; exact m1) (by simp only [PyData.depth]; omega) (by simp only [PyData.depth]; omega) ?_
  show Q (.bl (PyData.eqvAll (rs.map sideD) (ss.map sideD))) H
  rw [eqv_rows]
  exact q

theorem ok_Plain___eq (T : Txt K mg) : FnOk P w K mg base CX0 1 T.a_Plain___eq T.fd_Plain___eq ["self", "other"] (sp_Plain___eq T) :=
  T.F_Plain___eq.ok sc_Plain___eq (len_Plain___eq T) fun cdv A outer s H vs Q E hr h => ⟨t_Plain___eq w T, (pss_one (ps_ret (pe_and (pe_callB call_isi (by rfl) T.n_isinstance (by decide +kernel) (pa_cons (pv 1) (pa_cons (pe_glob (v := .ref T.a_Plain) (by rfl) T.m_Plain rfl) pa_nil))) (pe_one (pe_cmpR (op_eqX hr.units) (pe_fld (pv 0) rfl) (pe_fld (pv 1) rfl) (nomark _)))))), rd_Plain___eq T vs H Q E h⟩
end
end CP

namespace CP
open PySem L2
section
variable {P : Program} {w : World} {K : PySem.W.Frag} {mg : Str → Option Value} {base : Heap}
def sp_check_table (T : Txt K mg) : Sp := fun vs H Q _ => match vs with
  | [.ref o] => ∃ dx fs, H o = some (.ins T.a_Plain dx fs) ∧ Q .non H
  | _ => False
def t_check_table (w : World) (T : Txt K mg) : TS := tIfS (tNot (tB (tCB (rIsi K) (tCons (tVar 0) (tCons (tC (.ref T.a_Plain)) (tNil)))))) (tNever) (tNext)
theorem len_check_table (T : Txt K mg) : ∀ (vs : List V) (H : Hp) (Q : VK) (E : XK), sp_check_table T vs H Q E → vs.length = (["table"] : List Str).length := by
  intro vs H Q E h
  unfold sp_check_table at h
  split at h
  all_goals first | rfl | exact h.elim
theorem rd_check_table (T : Txt K mg) (vs : List V) (H : Hp) (Q : VK) (E : XK) (h : sp_check_table T vs H Q E) : t_check_table w T { nx := fun _ H' => Q .non H', rt := Q } (start ["table"] vs) H := by
  match vs, h with
  | [.ref o], h =>
  obtain ⟨dx, fs, ho, q⟩ := h
  unfold t_check_table
  walk_at "st"
  repeat walk_at "w"
  refine r_isiC ho T.I_Plain ?_
  repeat walk_at "w"
  exact q

theorem ok_check_table (T : Txt K mg) : FnOk P w K mg base CX0 1 T.a_check_table T.fd_check_table ["table"] (sp_check_table T) :=
  T.F_check_table.ok sc_check_table (len_check_table T) fun cdv A outer s H vs Q E hr h => ⟨t_check_table w T, (pss_one (ps_if (pt_not (pt_val (pe_callB call_isi (by rfl) T.n_isinstance (by decide +kernel) (pa_cons (pv 0) (pa_cons (pe_glob (v := .ref T.a_Plain) (by rfl) T.m_Plain rfl) pa_nil))))) (pss_one ps_never) pss_nil)), rd_check_table T vs H Q E h⟩
end
end CP

namespace CP
open PySem L2
section
variable {P : Program} {w : World} {K : PySem.W.Frag} {mg : Str → Option Value} {base : Heap}
def sp_is_ahead (_ : Txt K mg) : Sp := fun vs H Q _ => match vs with
  | [x, y] => ∃ r s, SideAt H x r ∧ SideAt H y s ∧ r.2.1.length ≤ 100 ∧ r.2.2.length ≤ 100 ∧ s.2.2.length ≤ 1000 ∧ ∀ H', Same H H' → Q (.bl (aheadB r s)) H'
  | _ => False
def t_is_ahead (w : World) (T : Txt K mg) : TS := tRet (tOp rNotN (tCall (sp_rest_of T) [] E0 (tCons (tOp (rIxT K) (tVar 1) (tC (.int 2))) (tCons (tOp rCat (tOp (rIxT K) (tVar 0) (tC (.int 1))) (tOp (rIxT K) (tVar 0) (tC (.int 2)))) (tNil)))) (tC .non))
theorem len_is_ahead (T : Txt K mg) : ∀ (vs : List V) (H : Hp) (Q : VK) (E : XK), sp_is_ahead T vs H Q E → vs.length = (["one", "other"] : List Str).length := by
  intro vs H Q E h
  unfold sp_is_ahead at h
  split at h
  all_goals first | rfl | exact h.elim
theorem rd_is_ahead (T : Txt K mg) (vs : List V) (H : Hp) (Q : VK) (E : XK) (h : sp_is_ahead T vs H Q E) : t_is_ahead w T { nx := fun _ H' => Q .non H', rt := Q } (start ["one", "other"] vs) H := by
  match vs, h with
  | [x, y], h =>
  obtain ⟨r, s, ⟨t, a, b, rfl, h1, h2, h3⟩, ⟨u, c, d, rfl, g1, g2, g3⟩, l1, l2, l3, q⟩ := h
  have sz : sizeLine = 16777216 := rfl
  unfold t_is_ahead
  walk_at "st"
  repeat walk_at "w"
  refine r_ixT (.of g1) (v := .ref d) (by rfl) ?_
  repeat walk_at "w"
  refine r_ixT (.of h1) (v := .ref a) (by rfl) ?_
  repeat walk_at "w"
  refine r_ixT (.of h1) (v := .ref b) (by rfl) ?_
  refine r_cat h2 h3 (by rw [strL_len, strL_len]; omega) fun c2 H3 c0 s3 hc => ?_
  rw [← strL_app] at hc
  repeat walk_at "w"
  refine ⟨_, _, CP.Same.to s3 g3, hc, l3, by rw [List.length_append]; omega, fun m p H4 e p0 s4 hp => ?_, fun H4 e s4 => ?_⟩
  · repeat walk_at "w"
    have := q H4 (s3.trans s4)
    unfold aheadB at this
    rw [e] at this
    exact this
  · repeat walk_at "w"
    have := q H4 (s3.trans s4)
    unfold aheadB at this
    rw [e] at this
    exact this

theorem ok_is_ahead (T : Txt K mg) : FnOk P w K mg base CX0 2 T.a_is_ahead T.fd_is_ahead ["one", "other"] (sp_is_ahead T) :=
  T.F_is_ahead.ok sc_is_ahead (len_is_ahead T) fun cdv A outer s H vs Q E hr h => ⟨t_is_ahead w T, (pss_one (ps_ret (pe_cmpR op_notN1 (pe_call (ok_rest_of T) (hr.mono (by decide)) (by rfl) T.m_rest_of T.F_rest_of.kp (b_rest_of T) .nil pass0 (pa_cons (pe_ix ix_tup (pv 1) pe_int (fun _ _ => rfl)) (pa_cons (pe_op op_cat (pe_ix ix_tup (pv 0) pe_int (fun _ _ => rfl)) (pe_ix ix_tup (pv 0) pe_int (fun _ _ => rfl))) pa_nil))) pe_non (nomark _)))), rd_is_ahead T vs H Q E h⟩
end
end CP

namespace CP
open PySem L2
section
variable {P : Program} {w : World} {K : PySem.W.Frag} {mg : Str → Option Value} {base : Heap}
def sp_ordered (T : Txt K mg) : Sp := fun vs H Q _ => match vs with
  | [.ref o] => ∃ rows, TabAt T.a_Plain H o rows ∧ Rows rows ∧ match orderM rows with
    | .inl fs => ∀ t f ws H', H t = none → H f = none → Same H H' → H' t = some (.tup [.ref f, .non]) → H' f = some (.lst ws) → Paired (SideAt H') ws fs → Q (.ref t) H'
    | .inr (r, s) => ∀ t u x y H', H t = none → Same H H' → H' t = some (.tup [.non, .ref u]) → H' u = some (.tup [x, y]) → SideAt H' x r → SideAt H' y s → Q (.ref t) H'
  | _ => False
def t_ordered (w : World) (T : Txt K mg) : TS := tSeq (tAsg (tLst (tNil)) (gName 1)) (tSeq (tFor (iList K (tFld K (tVar 0) "row")) (gName 2) (tIfS (tTest (tOp (rNeX K) (tOp (rIxT K) (tVar 2) (tC (.int 1))) (tLst (tNil)))) (tSeq (tAsg (tCB (rLenA K) (tCons (tLc (iList K (tVar 1)) (gName 4) (tB (tCall (sp_is_ahead T) [] E0 (tCons (tVar 4) (tCons (tVar 2) (tNil))))) (tVar 4) [4]) (tNil))) (gName 3)) (tSeq (tAsg (tLc (iList K (tVar 1)) (gName 4) (tAnd (tNot (tB (tCall (sp_is_ahead T) [] E0 (tCons (tVar 4) (tCons (tVar 2) (tNil)))))) (tNot (tB (tCall (sp_is_ahead T) [] E0 (tCons (tVar 2) (tCons (tVar 4) (tNil))))))) (tVar 4) [4]) (gName 5)) (tSeq (tIfS (tTest (tOp (rNeX K) (tVar 5) (tLst (tNil)))) (tRet (tTup (tCons (tC .non) (tCons (tTup (tCons (tOp (rIxL K) (tVar 5) (tC (.int 0))) (tCons (tVar 2) (tNil)))) (tNil))))) (tNext)) (tDrop (tBM K "list" rInsL (tVar 1) (tCons (tVar 3) (tCons (tVar 2) (tNil)))))))) (tNext))) (tRet (tTup (tCons (tVar 1) (tCons (tC .non) (tNil))))))
theorem len_ordered (T : Txt K mg) : ∀ (vs : List V) (H : Hp) (Q : VK) (E : XK), sp_ordered T vs H Q E → vs.length = (["table"] : List Str).length := by
  intro vs H Q E h
  unfold sp_ordered at h
  split at h
  all_goals first | rfl | exact h.elim
theorem rd_ordered (T : Txt K mg) (vs : List V) (H : Hp) (Q : VK) (E : XK) (h : sp_ordered T vs H Q E) : t_ordered w T { nx := fun _ H' => Q .non H', rt := Q } (start ["table", "found", "side", "at", "one", "wrong"] vs) H := by
  match vs, h with
  | [.ref o], h =>
  obtain ⟨rows, ⟨dx, p, ho, vs, hp, pr⟩, hR, q⟩ := h
  have sz : sizeLine = 16777216 := rfl
  have few := hR.few
  have vl := pd_len pr
  unfold t_ordered
  walk_at "st"
  repeat walk_at "w"
  rename_i f0 H1 f00 s1 hf0
  have ho1 := CP.Same.to s1 ho
  have hp1 := CP.Same.to s1 hp
  have p1 := sides_mono pr s1
  refine r_fget ho1 T.c_Plain T.n_Plain_row (by rfl) ?_
  refine ⟨p, rfl, ⟨_, .of hp1⟩, for_list (K := K) (a := p) (xs := vs) (fun i σ H' => Same H H' ∧ (∃ ws fs, H' f0 = some (.lst ws) ∧ Paired (SideAt H) ws fs ∧ (∀ x ∈ fs, x ∈ rows) ∧ fs.length ≤ i ∧ orderM rows = ordGo fs (rows.drop i)) ∧ ∃ x2 x3 x4 x5, σ = [some (.ref o), some (.ref f0), x2, x3, x4, x5]) ⟨s1, ⟨[], [], hf0, .nil, by simp, by simp, rfl⟩, _, _, _, _, rfl⟩ (fun _ _ _ _ w => .of (CP.Same.to w.1 hp)) ?_ ?_⟩
  · rintro i x σ H2 hx ⟨s2, ⟨ws, fs, hw, pw, hfs, lf, e⟩, x2, x3, x4, x5, rfl⟩
    obtain ⟨r, t, a, b, hr, hm, rfl, ht0, ha0, hb0⟩ := side_at pr (Same.refl _) hx
    have ht := CP.Same.to s2 ht0
    have ha := CP.Same.to s2 ha0
    have hb := CP.Same.to s2 hb0
    have la := hR.size r hm
    have lb := hR.step r hm
    have sr : SideAt H2 (.ref t) r := ⟨t, a, b, rfl, ht, ha, hb⟩
    have hi : i < rows.length := (List.getElem?_eq_some_iff.mp hr).1
    rw [drop_succ hr, ordGo] at e
    repeat walk_at "w"
    refine r_ixT (.of ht) (v := .ref a) (by rfl) ?_
    repeat walk_at "w"
    rename_i L H3 L0 s3 hL
    by_cases nil : r.2.1 = []
    · rw [nil] at ha
      refine nil_neX0 (.of (CP.Same.to s3 ha)) (.of hL) ?_
      repeat walk_at "w"
      rw [if_pos nil] at e
      exact ⟨s2.trans s3, ⟨ws, fs, CP.Same.to s3 hw, pw, hfs, by omega, e⟩, _, _, _, _, rfl⟩
    rw [if_neg nil] at e
    refine nil_neX (.of (CP.Same.to s3 ha)) (.of hL) (strs_dp la.lay) ?_
    rw [show (strL r.2.1).isEmpty = false by
      cases h : r.2.1 with
      | nil => exact absurd h nil
      | cons _ _ => rfl]
    repeat walk_at "w"
    have hw3 := CP.Same.to s3 hw
    have pw3 := sides_mono pw (s2.trans s3)
    have S3 := s2.trans s3
    have sr3 := sr.mono s3
    have wl := pd_len pw
    have lz : fs.length < sizeLine := by omega
    have bd : ∀ x ∈ rows, x.2.1.length ≤ 100 ∧ x.2.2.length ≤ 100 ∧ x.2.2.length ≤ 1000 := fun x hx => by
      have := (hR.size x hx).2
      have := (hR.step x hx).2
      omega
    refine ⟨f0, rfl, ⟨_, .of hw3⟩, fun D hD => lc_sdF (fun f => aheadB f r) pw3 hD (.of hw3) lz (fun k y f H4 N hy hf sf s4 no yes => ?_) fun H4 acc s4 hacc pacc => ?_⟩
    · have fm := bd f (hfs f (List.mem_of_getElem? hf))
      repeat walk_at "w"
      refine ⟨rfl, ?_⟩
      repeat walk_at "w"
      refine ⟨f, r, sf, sr3.mono s4, fm.1, fm.2.1, (bd r hm).2.2, fun H5 s5 => ?_⟩
      repeat walk_at "w"
      cases c : aheadB f r with
      | false =>
        repeat walk_at "w"
        exact no _ c s5
      | true =>
        repeat walk_at "w"
        exact yes _ c s5
    have hw4 := CP.Same.to s4 hw3
    have pw4 := sides_mono pw3 s4
    have sr4 := sr3.mono s4
    have al := pd_len pacc
    repeat walk_at "w"
    refine ⟨f0, rfl, ⟨_, .of hw4⟩, fun D2 hD2 => lc_sdF (fun f => !aheadB f r && !aheadB r f) pw4 hD2 (.of hw4) lz (fun k y f H5 N hy hf sf s5 no yes => ?_) fun H5 bcc s5 hbcc pbcc => ?_⟩
    · have fm := bd f (hfs f (List.mem_of_getElem? hf))
      have rm := bd r hm
      repeat walk_at "w"
      refine ⟨rfl, ?_⟩
      repeat walk_at "w"
      refine ⟨f, r, sf, sr4.mono s5, fm.1, fm.2.1, rm.2.2, fun H6 s6 => ?_⟩
      repeat walk_at "w"
      cases c : aheadB f r with
      | true =>
        repeat walk_at "w"
        exact no _ (by simp only [c]; rfl) s6
      | false =>
        repeat walk_at "w"
        refine ⟨r, f, (sr4.mono s5).mono s6, sf.mono s6, rm.1, rm.2.1, fm.2.2, fun H7 s7 => ?_⟩
        repeat walk_at "w"
        cases d : aheadB r f with
        | true =>
          repeat walk_at "w"
          exact no _ (by simp only [c, d]; rfl) (s6.trans s7)
        | false =>
          repeat walk_at "w"
          exact yes _ (by simp only [c, d]; rfl) (s6.trans s7)
    have hw5 := CP.Same.to s5 hw4
    have pw5 := sides_mono pw4 s5
    have sr5 := sr4.mono s5
    repeat walk_at "w"
    rename_i M H6 M0 s6 hM
    have hw6 := CP.Same.to s6 hw5
    have pw6 := sides_mono pw5 s6
    have sr6 := sr5.mono s6
    have S6 := ((S3.trans s4).trans s5).trans s6
    cases ew : fs.filter (fun f => !aheadB f r && !aheadB r f) with
    | nil =>
      rw [ew] at e pbcc
      cases pbcc
      refine nil_neX0 (.of (CP.Same.to s6 hbcc)) (.of hM) ?_
      repeat walk_at "w"
      refine ⟨.inl ⟨rfl, _, .of hw6⟩, ?_⟩
      repeat walk_at "w"
      have fl := List.length_filter_le (fun f => aheadB f r) fs
      refine r_insL hw6 (by omega) (by omega) (by omega) fun H7 b7 h7 => ?_
      rw [Int.toNat_natCast, al] at h7
      refine ⟨CP.Same.sb S6 f00 b7, ⟨_, fs.take (fs.filter fun f => aheadB f r).length ++ [r] ++ fs.drop (fs.filter fun f => aheadB f r).length, h7, ?_, ?_, ?_, e⟩, _, _, _, _, rfl⟩
      · exact pd_app (pd_app (pd_take pw _) (pd_one ⟨t, a, b, rfl, ht0, ha0, hb0⟩)) (pd_drop pw _)
      · intro x hx
        rcases List.mem_append.mp hx with hx | hx
        · rcases List.mem_append.mp hx with hx | hx
          · exact hfs x (List.mem_of_mem_take hx)
          · rw [List.mem_singleton.mp hx]; exact hm
        · exact hfs x (List.mem_of_mem_drop hx)
      · rw [List.length_append, List.length_append, List.length_take, List.length_drop, List.length_singleton]
        omega
    | cons w0 ws0 =>
      rw [ew] at e pbcc
      cases pbcc with
      | cons sw _ =>
      refine nil_neX1 (.of (CP.Same.to s6 hbcc)) (.of hM) ?_ ?_
      · refine sides_dp (sides_mono (.cons sw ‹_›) s6) fun f hf => ?_
        have hf : f ∈ fs := (List.mem_filter.mp (by rw [ew]; exact hf : f ∈ fs.filter (fun f => !aheadB f r && !aheadB r f))).1
        exact ⟨hR.name f (hfs f hf), hR.size f (hfs f hf), hR.step f (hfs f hf)⟩
      repeat walk_at "w"
      refine r_ixL (.of (CP.Same.to s6 hbcc)) (atI_nat (j := 0) rfl) ?_
      repeat walk_at "w"
      rename_i u H7 u0 s7 hu t2 H8 t0 s8 ht2
      rw [e] at q
      exact q t2 u _ _ H8 ((S6.trans s7).free t0) ((S6.trans s7).trans s8) ht2 (CP.Same.to s8 hu) ((sw.mono s6).mono (s7.trans s8)) (sr6.mono (s7.trans s8))
  · rintro σ H2 ⟨s2, ⟨ws, fs, hw, pw, hfs, lf, e⟩, x2, x3, x4, x5, rfl⟩
    rw [vl, List.drop_length] at e
    repeat walk_at "w"
    rename_i t H3 t0 s3 ht
    rw [ordGo] at e
    rw [e] at q
    exact q t f0 ws H3 (s2.free t0) f00 (s2.trans s3) ht (CP.Same.to s3 hw) (sides_mono pw (s2.trans s3))

theorem ok_ordered (T : Txt K mg) : FnOk P w K mg base CX0 3 T.a_ordered T.fd_ordered ["table"] (sp_ordered T) :=
  T.F_ordered.ok sc_ordered (len_ordered T) fun cdv A outer s H vs Q E hr h => ⟨t_ordered w T, (pss_cons (ps_set (i := 1) sc_ordered.nd rfl (Or.inl rfl) (pe_lst pa_nil))
      (pss_cons (ps_for PassesOwn.never rfl (pi_list (pe_fld (pv 0) rfl)) (pg_name (i := 2) sc_ordered.nd rfl (Or.inr rfl)) (pss_one (ps_if (pt_cmpR (op_neX hr.units) (pe_ix ix_tup (pv 2) pe_int (fun _ _ => rfl)) (pe_lst pa_nil) (nomark _)) (pss_cons (ps_set (i := 3) sc_ordered.nd rfl (Or.inl rfl) (pe_callB call_lenA (by rfl) T.n_len (by decide +kernel) (pa_cons (pe_lc (own := [("one", 4)]) (g := (gName 4)) (tt := tB (tCall (sp_is_ahead T) [] E0 (tCons (tVar 4) (tCons (tVar 2) (tNil))))) (te := tVar 4) rfl sc_ordered.nd (pi_list (pv 1)) (blkOk_by (own := [("one", 4)]) (N := ["table", "found", "side", "at", "one", "wrong"]) (sc := defScope s_ordered) (by decide +kernel)) (fun _ _ _ _ _ => (pg_name (i := 4) sc_ordered.nd rfl (Or.inl rfl))) (fun _ _ _ _ _ => (pts_one (pt_val (pe_call (ok_is_ahead T) (hr.mono (by decide)) (by rfl) T.m_is_ahead T.F_is_ahead.kp (b_is_ahead T) .nil pass0 (pa_cons (pv 4) (pa_cons (pv 2) pa_nil)))))) (fun _ _ _ _ _ => (pv 4))) pa_nil)))
      (pss_cons (ps_setLc (i := 5) (own := [("one", 4)]) (g := (gName 4)) (tt := tAnd (tNot (tB (tCall (sp_is_ahead T) [] E0 (tCons (tVar 4) (tCons (tVar 2) (tNil)))))) (tNot (tB (tCall (sp_is_ahead T) [] E0 (tCons (tVar 2) (tCons (tVar 4) (tNil))))))) (te := tVar 4) rfl sc_ordered.nd rfl rfl (sw_true rfl rfl rfl (by decide +kernel)) (pi_list (pv 1)) (blkOk_by (own := [("one", 4)]) (N := ["table", "found", "side", "at", "one", "wrong"]) (sc := defScope s_ordered) (by decide +kernel)) (fun _ _ _ _ _ => (pg_name (i := 4) sc_ordered.nd rfl (Or.inl rfl))) (fun _ _ _ _ _ => (pts_one (PW.pt (pw_and (pt_not (pt_val (pe_call (ok_is_ahead T) (hr.mono (by decide)) (by rfl) T.m_is_ahead T.F_is_ahead.kp (b_is_ahead T) .nil pass0 (pa_cons (pv 4) (pa_cons (pv 2) pa_nil))))) (pw_and1 (pt_not (pt_val (pe_call (ok_is_ahead T) (hr.mono (by decide)) (by rfl) T.m_is_ahead T.F_is_ahead.kp (b_is_ahead T) .nil pass0 (pa_cons (pv 2) (pa_cons (pv 4) pa_nil)))))))))) (fun _ _ _ _ _ => (pv 4)))
      (pss_cons (ps_if (pt_cmpR (op_neX hr.units) (pv 5) (pe_lst pa_nil) (nomark _)) (pss_one (ps_ret (pe_tup (pa_cons pe_non (pa_cons (pe_tup (pa_cons (pe_ix ix_list (pv 5) pe_int (fun _ _ => rfl)) (pa_cons (pv 2) pa_nil))) pa_nil))))) pss_nil)
      (pss_one (ps_expr (pe_bm PySem.F.plainAttrs_list PySem.F.slot_list_insert PySem.F.type_list_insert mt_insL (pv 1) (pa_cons (pv 3) (pa_cons (pv 2) pa_nil)))))))) pss_nil)))
      (pss_one (ps_ret (pe_tup (pa_cons (pv 1) (pa_cons pe_non pa_nil))))))), rd_ordered T vs H Q E h⟩
end
end CP

namespace CP
open PySem L2
section
variable {P : Program} {w : World} {K : PySem.W.Frag} {mg : Str → Option Value} {base : Heap}
def sp_check_own (T : Txt K mg) : Sp := fun vs H Q _ => match vs with
  | [.ref o] => ∃ rows fs, TabAt T.a_Plain H o rows ∧ Rows rows ∧ orderM rows = .inl fs ∧ ∀ f ws H', H f = none → Same H H' → H' f = some (.lst ws) → Paired (SideAt H') ws fs → Q (.ref f) H'
  | _ => False
def t_check_own (w : World) (T : Txt K mg) : TS := tSeq (tAsg (tOp (rIxT K) (tCall (sp_ordered T) [] E0 (tCons (tVar 0) (tNil))) (tC (.int 0))) (gName 1)) (tSeq (tIfS (tTest (tOp rIsN (tVar 1) (tC .non))) (tNever) (tNext)) (tRet (tVar 1)))
theorem len_check_own (T : Txt K mg) : ∀ (vs : List V) (H : Hp) (Q : VK) (E : XK), sp_check_own T vs H Q E → vs.length = (["table"] : List Str).length := by
  intro vs H Q E h
  unfold sp_check_own at h
  split at h
  all_goals first | rfl | exact h.elim
theorem rd_check_own (T : Txt K mg) (vs : List V) (H : Hp) (Q : VK) (E : XK) (h : sp_check_own T vs H Q E) : t_check_own w T { nx := fun _ H' => Q .non H', rt := Q } (start ["table", "found"] vs) H := by
  match vs, h with
  | [.ref o], h =>
  obtain ⟨rows, fs, hT, hR, e, q⟩ := h
  unfold t_check_own
  walk_at "st"
  repeat walk_at "w"
  refine ⟨rows, hT, hR, ?_⟩
  rw [e]
  intro t f ws H1 t0 f0 s1 ht hf pw
  repeat walk_at "w"
  refine r_ixT (.of ht) (v := .ref f) (by rfl) ?_
  repeat walk_at "w"
  exact q f ws H1 f0 s1 hf pw

theorem ok_check_own (T : Txt K mg) : FnOk P w K mg base CX0 4 T.a_check_own T.fd_check_own ["table"] (sp_check_own T) :=
  T.F_check_own.ok sc_check_own (len_check_own T) fun cdv A outer s H vs Q E hr h => ⟨t_check_own w T, (pss_cons (ps_set (i := 1) sc_check_own.nd rfl (Or.inl rfl) (pe_ix ix_tup (pe_call (ok_ordered T) (hr.mono (by decide)) (by rfl) T.m_ordered T.F_ordered.kp (b_ordered T) .nil pass0 (pa_cons (pv 0) pa_nil)) pe_int (fun _ _ => rfl)))
      (pss_cons (ps_if (pt_cmpR op_isN1 (pv 1) pe_non (nomark _)) (pss_one ps_never) pss_nil)
      (pss_one (ps_ret (pv 1))))), rd_check_own T vs H Q E h⟩
end
end CP

namespace CP
open PySem L2
section
variable {P : Program} {w : World} {K : PySem.W.Frag} {mg : Str → Option Value} {base : Heap}
def sp_found_at (T : Txt K mg) : Sp := fun vs H Q _ => match vs with
  | [.ref o, .ref f, .ref d, .int n] => ∃ rows fs ws kv, TabAt T.a_Plain H o rows ∧ Rows rows ∧ H f = some (.lst ws) ∧ Paired (SideAt H) ws fs ∧ (∀ r ∈ fs, r ∈ rows) ∧ fs.length ≤ 20 ∧ H d = some (.dK (dV kv)) ∧ (∀ k ∈ sizesM rows, (getD kv k).isSome = true ∧ 1 ≤ atD kv k ∧ atD kv k < 2 ^ 10) ∧ 0 ≤ n ∧ n < 2 ^ 100 ∧
      match foundM rows fs (atD kv) n with
      | some c => ∀ p H', H p = none → Same H H' → H' p = some (.lst (c.map V.int)) → Q (.ref p) H'
      | none => ∀ H', Same H H' → Q .non H'
  | _ => False
def t_found_at (w : World) (T : Txt K mg) : TS := tSeq (tAsg (tDNewK) (gName 4)) (tSeq (tFor (iList K (tRevL K (tVar 1))) (gTup K 3 (gCons (gName 5) (gCons (gName 6) (gCons (gName 7) gNil)))) (tSeq (sDPut (tVar 4) (tVar 5) (tCB oMin2 (tCons (tOp oDiv (tVar 3) (tCall (sp_valued T) [] E0 (tCons (tVar 7) (tCons (tVar 2) (tNil))))) (tCons (tOp oSub (tCall (sp_valued T) [] E0 (tCons (tVar 6) (tCons (tVar 2) (tNil)))) (tC (.int 1))) (tNil))))) (tAsg (tOp oSub (tVar 3) (tOp oMul (tDGet (tVar 4) (tVar 5)) (tCall (sp_valued T) [] E0 (tCons (tVar 7) (tCons (tVar 2) (tNil)))))) (gName 3)))) (tRet (tIf (tTest (tOp rEq (tVar 3) (tC (.int 0)))) (tLc (iList K (tFld K (tVar 0) "row")) (gName 8) (tYes) (tDGet2 (tVar 4) (tOp (rIxT K) (tVar 8) (tC (.int 0))) (tC (.int 0))) [8]) (tC .non))))
theorem len_found_at (T : Txt K mg) : ∀ (vs : List V) (H : Hp) (Q : VK) (E : XK), sp_found_at T vs H Q E → vs.length = (["table", "order", "values", "place"] : List Str).length := by
  intro vs H Q E h
  unfold sp_found_at at h
  split at h
  all_goals first | rfl | exact h.elim
theorem rd_found_at (T : Txt K mg) (vs : List V) (H : Hp) (Q : VK) (E : XK) (h : sp_found_at T vs H Q E) : t_found_at w T { nx := fun _ H' => Q .non H', rt := Q } (start ["table", "order", "values", "place", "cell", "name", "size", "step", "side"] vs) H := by
  match vs, h with
  | [.ref o, .ref f, .ref d, .int n], h =>
  obtain ⟨rows, fs, ws, kv, hT, hR, hf, pw, fm, lf, hd, hk, n0, n1, q⟩ := h
  have sz : sizeLine = 16777216 := rfl
  unfold t_found_at
  walk_at "st"
  repeat walk_at "w"
  rename_i c0 H1 c00 s1 hc0
  have wl := pd_len pw
  refine ⟨f, ws, rfl, .of (CP.Same.to s1 hf), fun f2 f20 => ?_⟩
  have s2 := same_new (o := HO.lst ws.reverse) f20
  have hf2 : (upd H1 f2 (HO.lst ws.reverse)) f2 = some (.lst ws.reverse) := upd_same
  generalize upd H1 f2 (HO.lst ws.reverse) = H2 at s2 hf2 ⊢
  have S2 := s1.trans s2
  have pr := pd_rev (sides_mono pw S2)
  have hc2 := CP.Same.to s2 hc0
  have nc : c0 ≠ f2 := ne_of_none hc0 f20
  have F2 : H f2 = none := s1.free f20
  have hT2 := hT
  obtain ⟨dx, p, ho, vs, hp, prr⟩ := hT
  have low : ∀ r ∈ fs, ∀ l, l = r.2.1 ∨ l = r.2.2 → (∀ k ∈ l, valV (dV kv) (Sum.inr k) = some (.int (atD kv k)) ∧ 0 ≤ atD kv k ∧ atD kv k < 2 ^ 400) ∧ (∀ i, i ≤ l.length → prodF (atD kv) (l.take i) < 2 ^ 400) ∧ 1 ≤ prodF (atD kv) l ∧ prodF (atD kv) l < 2 ^ 400 := by
    intro r hr l hl
    have ll : Lets l := by
      rcases hl with rfl | rfl
      · exact hR.size r (fm r hr)
      · exact hR.step r (fm r hr)
    have lm : ∀ k ∈ l, k ∈ sizesM rows := fun k hk => mem_sizes (fm r hr) (by
      rcases hl with rfl | rfl
      · exact List.mem_append_left _ hk
      · exact List.mem_append_right _ hk)
    have b : ∀ k ∈ l, 1 ≤ atD kv k ∧ atD kv k < 2 ^ 10 := fun k hk' => (hk k (lm k hk')).2
    have all : ∀ i, prodF (atD kv) (l.take i) < 2 ^ 400 := fun i => by
      have := (prodF_le (l := l.take i) fun k hk' => b k (List.mem_of_mem_take hk')).2
      refine Int.lt_of_le_of_lt this (two_lt ?_)
      have := ll.2
      rw [List.length_take]
      omega
    refine ⟨fun k hk' => ?_, fun i _ => all i, (prodF_le b).1, by have := all l.length; rwa [List.take_length] at this⟩
    obtain ⟨c1, c2, c3⟩ := hk k (lm k hk')
    refine ⟨?_, by omega, Int.lt_trans c3 (two_lt (a := 10) (b := 400) (by omega))⟩
    rw [dV_val]
    unfold atD
    cases e : getD kv k with
    | none => rw [e] at c1; cases c1
    | some n => rfl
  refine ⟨f2, rfl, ⟨_, .of hf2⟩, for_list (K := K) (a := f2) (xs := ws.reverse) (fun i σ H' => SB c0 H2 H' ∧ (∃ cs m, H' c0 = some (.dK (dV cs)) ∧ cs.length ≤ i ∧ (cs.map (·.1)).Nodup ∧ 0 ≤ m ∧ m ≤ n ∧ foundGo (atD kv) fs.reverse ([], n) = foundGo (atD kv) (fs.reverse.drop i) (cs, m) ∧ σ[3]? = some (some (.int m))) ∧ ∃ x3 x5 x6 x7 x8, σ = [some (.ref o), some (.ref f), some (.ref d), x3, some (.ref c0), x5, x6, x7, x8]) ⟨fun _ _ _ w => w, ⟨[], n, hc2, by simp, by simp, n0, by omega, rfl, rfl⟩, _, _, _, _, _, rfl⟩ (fun _ _ _ _ w => .of (w.1 _ _ nc.symm hf2)) ?_ ?_⟩
  · rintro i x σ H3 hx ⟨b3, ⟨cs, m, hc, lc, nd, m0, mn, e, hσ⟩, x3, x5, x6, x7, x8, rfl⟩
    obtain ⟨rfl⟩ : x3 = some (.int m) := Option.some.inj hσ
    have S3 := CP.Same.sb S2 c00 b3
    obtain ⟨r, t, a, b, hr, hm, rfl, ht, ha, hb⟩ := side_at (pd_rev pw) S3 hx
    have rm : r ∈ fs := List.mem_reverse.mp hm
    have il : i < fs.length := by have := (List.getElem?_eq_some_iff.mp hr).1; rwa [List.length_reverse] at this
    rw [drop_succ hr, foundGo] at e
    dsimp only at e
    obtain ⟨u1, u2, u3, u4⟩ := low r rm _ (.inr rfl)
    obtain ⟨v1, v2, v3, v4⟩ := low r rm _ (.inl rfl)
    have hd3 := CP.Same.to S3 hd
    have q0 : 0 ≤ m / prodF (atD kv) r.2.2 := Int.ediv_nonneg m0 (by omega)
    have q1 : m / prodF (atD kv) r.2.2 ≤ m := Int.ediv_le_self _ m0
    have q2 : m / prodF (atD kv) r.2.2 * prodF (atD kv) r.2.2 ≤ m := Int.ediv_mul_le _ (by omega)
    repeat walk_at "w"
    refine ⟨_, _, atD kv, hb, hd3, u1, u2, ?_⟩
    repeat walk_at "w"
    refine ⟨_, _, atD kv, ha, hd3, v1, v2, ?_⟩
    repeat walk_at "w"
    have em : (if prodF (atD kv) r.2.1 - 1 < m / prodF (atD kv) r.2.2 then prodF (atD kv) r.2.1 - 1 else m / prodF (atD kv) r.2.2) = min (m / prodF (atD kv) r.2.2) (prodF (atD kv) r.2.1 - 1) := by split <;> omega
    rw [em]
    refine r_dputS hc (by unfold dV; rw [List.length_map]; omega) fun H4 b4 h4 => ?_
    rw [dV_put _ _ _ nd] at h4
    have k4 := CP.Same.sb S3 c00 b4
    have lc2 := setD_len cs r.1 (min (m / prodF (atD kv) r.2.2) (prodF (atD kv) r.2.1 - 1))
    have hb4 := b4 _ _ (fun e => by rw [e, hc] at hb; cases hb) hb
    have hd4 := CP.Same.to k4 hd
    repeat walk_at "w"
    refine r_dgetS h4 (by rw [dV_val, getD_setD, if_pos rfl]; rfl) ?_
    repeat walk_at "w"
    refine ⟨_, _, atD kv, hb4, hd4, u1, u2, ?_⟩
    have q3 : min (m / prodF (atD kv) r.2.2) (prodF (atD kv) r.2.1 - 1) ≤ m / prodF (atD kv) r.2.2 := Int.min_le_left _ _
    have q4 : 0 ≤ min (m / prodF (atD kv) r.2.2) (prodF (atD kv) r.2.1 - 1) := by omega
    have q5 := Int.mul_le_mul_of_nonneg_right q3 (by omega : 0 ≤ prodF (atD kv) r.2.2)
    have q6 := Int.mul_nonneg q4 (by omega : 0 ≤ prodF (atD kv) r.2.2)
    have nd2 := setD_nd (k := r.1) (n := min (m / prodF (atD kv) r.2.2) (prodF (atD kv) r.2.1 - 1)) nd
    generalize min (m / prodF (atD kv) r.2.2) (prodF (atD kv) r.2.1 - 1) = c at *
    repeat walk_at "w"
    exact ⟨SB.trans b3 b4, ⟨_, _, h4, by omega, nd2, by omega, by omega, e, rfl⟩, _, _, _, _, _, rfl⟩
  · rintro σ H3 ⟨b3, ⟨cs, m, hc, lc, nd, m0, mn, e, hσ⟩, x3, x5, x6, x7, x8, rfl⟩
    obtain ⟨rfl⟩ : x3 = some (.int m) := Option.some.inj hσ
    have S3 := CP.Same.sb S2 c00 b3
    rw [List.length_reverse, wl, ← List.length_reverse, List.drop_length, foundGo] at e
    have ho3 := CP.Same.to S3 ho
    have hp3 := CP.Same.to S3 hp
    have p3 := sides_mono prr S3
    have few := hR.few
    have vl := pd_len prr
    unfold foundM at q
    rw [e] at q
    dsimp only at q
    repeat walk_at "w"
    refine if_d (fun z => ?_) fun z => ?_
    · rw [if_pos z] at q
      repeat walk_at "w"
      refine r_fget ho3 T.c_Plain T.n_Plain_row (by rfl) ?_
      refine ⟨p, rfl, ⟨_, .of hp3⟩, fun D hD => lc_valsL ((rows.map fun r => (getD cs r.1).getD 0).map V.int) hD (.of hp3) (by rw [List.length_map, List.length_map, vl]) (by rw [List.length_map, List.length_map]; omega) (fun i x y H4 hx hy s4 N no yes => ?_) fun H4 s4 hN => ?_⟩
      · obtain ⟨r, t, a, b, hr, hm, rfl, ht, ha, hb⟩ := side_at p3 s4 hx
        have ey : y = .int ((getD cs r.1).getD 0) := by
          rw [List.getElem?_map, List.getElem?_map, hr] at hy
          exact (Option.some.inj hy).symm
        subst ey
        have hc4 := CP.Same.to s4 hc
        repeat walk_at "w"
        refine ⟨rfl, r_yes (if_t ?_)⟩
        repeat walk_at "w"
        refine r_ixT (.of ht) (v := .str r.1) (by rfl) ?_
        repeat walk_at "w"
        exact yes _ _ _ rfl (Same.refl _) (by rw [dV_val]; cases getD cs r.1 <;> rfl)
      repeat walk_at "w"
      exact q D H4 (S3.free hD) (S3.trans s4) hN
    · rw [if_neg z] at q
      repeat walk_at "w"
      exact q H3 S3

theorem ok_found_at (T : Txt K mg) : FnOk P w K mg base CX0 2 T.a_found_at T.fd_found_at ["table", "order", "values", "place"] (sp_found_at T) :=
  T.F_found_at.ok sc_found_at (len_found_at T) fun cdv A outer s H vs Q E hr h => ⟨t_found_at w T, (pss_cons (ps_set (i := 4) sc_found_at.nd rfl (Or.inr rfl) pe_dnewK)
      (pss_cons (ps_for PassesOwn.never rfl (pi_list (pe_revL (pv 1))) (pg_tup rfl (pgs_cons (pg_name (i := 5) sc_found_at.nd rfl (Or.inl rfl)) (pgs_cons (pg_name (i := 6) sc_found_at.nd rfl (Or.inl rfl)) (pgs_cons (pg_name (i := 7) sc_found_at.nd rfl (Or.inl rfl)) pgs_nil)))) (pss_cons (ps_dput (hu_of hr) (pv 4) (pv 5) (pe_callB (call_minA rfl) (by rfl) T.n_min (by decide +kernel) (pa_cons (pe_op op_fdivW (pv 3) (pe_call (ok_valued T) (hr.mono (by decide)) (by rfl) T.m_valued T.F_valued.kp (b_valued T) .nil pass0 (pa_cons (pv 7) (pa_cons (pv 2) pa_nil)))) (pa_cons (pe_op op_sub (pe_call (ok_valued T) (hr.mono (by decide)) (by rfl) T.m_valued T.F_valued.kp (b_valued T) .nil pass0 (pa_cons (pv 6) (pa_cons (pv 2) pa_nil))) pe_int) pa_nil))) rfl)
      (pss_one (ps_set (i := 3) sc_found_at.nd rfl (Or.inl rfl) (pe_op op_sub (pv 3) (pe_op op_mulW (pe_dget (hu_of hr) (pv 4) (pv 5) (fun _ _ => rfl)) (pe_call (ok_valued T) (hr.mono (by decide)) (by rfl) T.m_valued T.F_valued.kp (b_valued T) .nil pass0 (pa_cons (pv 7) (pa_cons (pv 2) pa_nil)))))))))
      (pss_one (ps_ret (pe_ifExp (pt_cmpR op_eq (pv 3) pe_int (nomark _)) (pe_lc (own := [("side", 8)]) (g := (gName 8)) (tt := tYes) (te := tDGet2 (tVar 4) (tOp (rIxT K) (tVar 8) (tC (.int 0))) (tC (.int 0))) rfl sc_found_at.nd (pi_list (pe_fld (pv 0) rfl)) (blkOk_by (own := [("side", 8)]) (N := ["table", "order", "values", "place", "cell", "name", "size", "step", "side"]) (sc := defScope s_found_at) (by decide +kernel)) (fun _ _ _ _ _ => (pg_name (i := 8) sc_found_at.nd rfl (Or.inl rfl))) (fun _ _ _ _ _ => pts_nil) (fun _ _ _ _ _ => (pe_dget2 (hu_of hr) (pv 4) (pe_ix ix_tup (pv 8) pe_int (fun _ _ => rfl)) pe_int ⟨by rfl, by rfl, by rfl, by rfl⟩))) pe_non))))), rd_found_at T vs H Q E h⟩
end
end CP

namespace CP
open PySem L2
section
variable {P : Program} {w : World} {K : PySem.W.Frag} {mg : Str → Option Value} {base : Heap}
def sp_cell_of (T : Txt K mg) : Sp := fun vs H Q _ => match vs with
  | [.ref o, .ref d, .int n] => ∃ rows fs kv, TabAt T.a_Plain H o rows ∧ Rows rows ∧ orderM rows = .inl fs ∧ H d = some (.dK (dV kv)) ∧ (∀ p ∈ kv, letB p.1 = true) ∧ (kv.map (·.1)).Nodup ∧ kv.length < 2000 ∧ (∀ k ∈ sizesM rows, (getD kv k).isSome = true ∧ 1 ≤ atD kv k ∧ atD kv k < 2 ^ 10) ∧ 0 ≤ n ∧ n < 2 ^ 100 ∧ ∀ v H', Same H H' → CellAt rows fs (atD kv) n v H' → (∀ z, v = .ref z → H z = none) → Q v H'
  | _ => False
def t_cell_of (w : World) (T : Txt K mg) : TS := tSeq (tDrop (tCall (sp_check_table T) [] E0 (tCons (tVar 0) (tNil)))) (tSeq (tDrop (tCall (sp_check_sizes T) [] E0 (tCons (tMeth T.a_Plain "sizes" (sp_Plain_sizes T) [] E0 (tVar 0) tNil) (tCons (tVar 1) (tNil))))) (tSeq (tIfS (tNot (tB (tCall (sp_is_count T) [] E0 (tCons (tVar 2) (tNil))))) (tNever) (tNext)) (tRet (tCall (sp_found_at T) [] E0 (tCons (tVar 0) (tCons (tCall (sp_check_own T) [] E0 (tCons (tVar 0) (tNil))) (tCons (tVar 1) (tCons (tVar 2) (tNil)))))))))
theorem len_cell_of (T : Txt K mg) : ∀ (vs : List V) (H : Hp) (Q : VK) (E : XK), sp_cell_of T vs H Q E → vs.length = (["table", "values", "place"] : List Str).length := by
  intro vs H Q E h
  unfold sp_cell_of at h
  split at h
  all_goals first | rfl | exact h.elim
theorem rd_cell_of (T : Txt K mg) (vs : List V) (H : Hp) (Q : VK) (E : XK) (h : sp_cell_of T vs H Q E) : t_cell_of w T { nx := fun _ H' => Q .non H', rt := Q } (start ["table", "values", "place"] vs) H := by
  match vs, h with
  | [.ref o, .ref d, .int n], h =>
  obtain ⟨rows, fs, kv, hT, hR, e, hd, hl, nd, hz, hk, n0, n1, q⟩ := h
  have q : match foundM rows fs (atD kv) n with
      | some c => ∀ p H', H p = none → Same H H' → H' p = some (.lst (c.map V.int)) → Q (.ref p) H'
      | none => ∀ H', Same H H' → Q .non H' := by
    cases g : foundM rows fs (atD kv) n with
    | none => exact fun H' s => q _ H' s (by unfold CellAt; rw [g]) (fun _ z => by cases z)
    | some c => exact fun p H' p0 s hp => q _ H' s (by unfold CellAt; rw [g]; exact ⟨p, rfl, hp⟩) (fun _ z => by cases z; exact p0)
  have hT2 := hT
  have sz : sizeLine = 16777216 := rfl
  obtain ⟨dx, p, ho, vs, hp, pr⟩ := hT
  unfold t_cell_of
  walk_at "st"
  repeat walk_at "w"
  refine ⟨dx, _, ho, ?_⟩
  repeat walk_at "w"
  refine ⟨o, dx, _, rfl, ho, by rfl, ?_⟩
  repeat walk_at "w"
  refine ⟨rows, hT2, hR, fun z H1 z0 s1 hz1 => ?_⟩
  have sl := sizes_len hR
  repeat walk_at "w"
  refine ⟨_, kv, hz1, CP.Same.to s1 hd, hl, nd, hz, by omega, fun k hk' => ?_, fun H2 s2 => ?_⟩
  · obtain ⟨c1, c2, c3⟩ := hk k hk'
    unfold atD at c2
    cases g : getD kv k with
    | none => rw [g] at c1; cases c1
    | some v => rw [g] at c2; exact ⟨v, rfl, c2⟩
  repeat walk_at "w"
  show _
  refine (show sp_is_count T [V.int n] _ _ _ from ?_)
  rw [sp_is_count]
  rw [decide_eq_true n0]
  repeat walk_at "w"
  have S2 := s1.trans s2
  refine ⟨rows, fs, TabAt.mono hT2 S2, hR, e, fun f ws H3 f0 s3 hf pw => ?_⟩
  repeat walk_at "w"
  have S3 := S2.trans s3
  have ol := order_inl e
  have few := hR.few
  refine ⟨rows, fs, ws, kv, TabAt.mono hT2 S3, hR, hf, pw, ol.1, by omega, CP.Same.to S3 hd, hk, n0, n1, ?_⟩
  cases g : foundM rows fs (atD kv) n with
  | none =>
    rw [g] at q
    exact fun H' s => q H' (S3.trans s)
  | some c =>
    rw [g] at q
    exact fun p H' p0 s h => q p H' (S3.free p0) (S3.trans s) h

theorem ok_cell_of (T : Txt K mg) : FnOk P w K mg base CX0 5 T.a_cell_of T.fd_cell_of ["table", "values", "place"] (sp_cell_of T) :=
  T.F_cell_of.ok sc_cell_of (len_cell_of T) fun cdv A outer s H vs Q E hr h => ⟨t_cell_of w T, (pss_cons (ps_expr (pe_call (ok_check_table T) (hr.mono (by decide)) (by rfl) T.m_check_table T.F_check_table.kp (b_check_table T) .nil pass0 (pa_cons (pv 0) pa_nil)))
      (pss_cons (ps_expr (pe_call (ok_check_sizes T) (hr.mono (by decide)) (by rfl) T.m_check_sizes T.F_check_sizes.kp (b_check_sizes T) .nil pass0 (pa_cons (pe_meth0 (pv 0) T.c_Plain T.M_Plain_sizes (ok_Plain_sizes T) (hr.mono (by decide)) (b_Plain_sizes T) .nil pass0) (pa_cons (pv 1) pa_nil))))
      (pss_cons (ps_if (pt_not (pt_val (pe_call (ok_is_count T) (hr.mono (by decide)) (by rfl) T.m_is_count T.F_is_count.kp (b_is_count T) .nil pass0 (pa_cons (pv 2) pa_nil)))) (pss_one ps_never) pss_nil)
      (pss_one (ps_ret (pe_call (ok_found_at T) (hr.mono (by decide)) (by rfl) T.m_found_at T.F_found_at.kp (b_found_at T) .nil pass0 (pa_cons (pv 0) (pa_cons (pe_call (ok_check_own T) (hr.mono (by decide)) (by rfl) T.m_check_own T.F_check_own.kp (b_check_own T) .nil pass0 (pa_cons (pv 0) pa_nil)) (pa_cons (pv 1) (pa_cons (pv 2) pa_nil)))))))))), rd_cell_of T vs H Q E h⟩
end
end CP

namespace CP
open PySem L2
section
variable {P : Program} {w : World} {K : PySem.W.Frag} {mg : Str → Option Value} {base : Heap}
theorem cut_ints (ns : List Int) (lo hi : Option Int) : ∃ ms : List Int, cutV (ns.map V.int) lo hi = ms.map V.int := by
  unfold cutV
  rw [← List.map_drop, ← List.map_take]
  exact ⟨_, rfl⟩
/-- a purse: its first, second and third item -/
def Purse (H : Hp) (p : Addr) (x y z : Int) : Prop := H p = some (.lst [.int x, .int y, .int z]) ∧ 0 ≤ x ∧ x < 10 ^ 480 ∧ 0 ≤ y ∧ y < 2147483629 ∧ 0 ≤ z
theorem Purse.mono {H H' : Hp} {p : Addr} {x y z : Int} (h : Purse H p x y z) (s : Same H H') : Purse H' p x y z := ⟨CP.Same.to s h.1, h.2⟩
theorem Purse.sb {H H' : Hp} {p q : Addr} {x y z : Int} (h : Purse H p x y z) (s : SB q H H') (n : p ≠ q) : Purse H' p x y z := ⟨s _ _ n h.1, h.2⟩
theorem pow18 : CPw 10 18 := ⟨by decide, by decide, by decide +kernel⟩
theorem pow60 : CPw 10 60 := ⟨by decide, by decide, by decide +kernel⟩
theorem pow608 : CPw (10 ^ (60 : Int).toNat) 8 := ⟨by decide, by decide, by decide +kernel⟩
theorem pow480 : ((10 : Int) ^ (60 : Int).toNat) ^ (8 : Int).toNat = 10 ^ 480 := by decide +kernel
def sp_law_purse (_ : Txt K mg) : Sp := fun vs H Q _ => match vs with
  | [.ref a, .int i] => ∃ ns : List Int, SqL K H a (ns.map V.int) ∧ 0 ≤ i ∧ i < 2 ^ 40 ∧ ∀ p H' x y, H p = none → Same H H' → Purse H' p x y (1000 * i) → Q (.ref p) H'
  | _ => False
def t_law_purse (w : World) (T : Txt K mg) : TS := tSeq (tAsg (tCB (rSum K) (tCons (tSl (rSlL K) (tVar 0) (tPart (tVar 1)) (tPart (tOp oAdd (tVar 1) (tC (.int 1))))) (tNil))) (gName 2)) (tRet (tLst (tCons (tOp oMod (tCB oMax2 (tCons (tOp oSub (tVar 2) (tOp oPow (tC (.int 10)) (tC (.int 18)))) (tCons (tC (.int 0)) (tNil)))) (tOp oPow (tOp oPow (tC (.int 10)) (tC (.int 60))) (tC (.int 8)))) (tCons (tOp oMod (tVar 2) (tC (.int 2147483629))) (tCons (tOp oMul (tC (.int 1000)) (tVar 1)) (tNil))))))
theorem len_law_purse (T : Txt K mg) : ∀ (vs : List V) (H : Hp) (Q : VK) (E : XK), sp_law_purse T vs H Q E → vs.length = (["_law_script", "_law_at"] : List Str).length := by
  intro vs H Q E h
  unfold sp_law_purse at h
  split at h
  all_goals first | rfl | exact h.elim
theorem rd_law_purse (T : Txt K mg) (vs : List V) (H : Hp) (Q : VK) (E : XK) (h : sp_law_purse T vs H Q E) : t_law_purse w T { nx := fun _ H' => Q .non H', rt := Q } (start ["_law_script", "_law_at", "_law_cell_here"] vs) H := by
  match vs, h with
  | [.ref a, .int i], h =>
  obtain ⟨ns, ha, hi, hi2, q⟩ := h
  unfold t_law_purse
  walk_at "st"
  repeat walk_at "s"
  rename_i l H1 l0 s1 l1
  obtain ⟨ms, e⟩ := cut_ints ns (some i) (some (i + 1))
  rw [e] at l1
  refine r_sum (.of l1) ?_
  generalize ms.sum = c
  repeat walk_at "s"
  refine r_I pow18 ?_
  repeat walk_at "s"
  refine r_I pow60 ?_
  repeat walk_at "s"
  refine r_I pow608 ?_
  rw [pow480]
  refine r_I (by decide +kernel) ?_
  repeat walk_at "s"
  rename_i p H2 p0 s2 p1
  have t : (0 : Int) < 10 ^ 480 := by decide +kernel
  refine q p H2 _ _ (s1.free p0) (s1.trans s2) ⟨p1, Int.emod_nonneg _ (by omega), Int.emod_lt_of_pos _ t, by omega, by omega, by omega⟩

theorem ok_law_purse (T : Txt K mg) : FnOk P w K mg base CX0 1 T.a_law_purse T.fd_law_purse ["_law_script", "_law_at"] (sp_law_purse T) :=
  T.F_law_purse.ok sc_law_purse (len_law_purse T) fun cdv A outer s H vs Q E hr h => ⟨t_law_purse w T, (pss_cons (ps_set (i := 2) sc_law_purse.nd rfl (Or.inl rfl) (pe_callB (cr_sum rfl) (by rfl) T.n_sum (by decide +kernel) (pa_cons (pe_slice sl_list (pv 0) (po_some (pv 1)) (po_some (pe_op op_add (pv 1) pe_int))) pa_nil)))
      (pss_one (ps_ret (pe_lst (pa_cons (pe_op op_mod (pe_callB (call_maxA rfl) (by rfl) T.n_max (by decide +kernel) (pa_cons (pe_op op_sub (pv 2) (pe_op op_powW pe_int pe_int)) (pa_cons pe_int pa_nil))) (pe_op op_powW (pe_op op_powW pe_int pe_int) pe_int)) (pa_cons (pe_op op_mod (pv 2) pe_int) (pa_cons (pe_op op_mulW pe_int (pv 1)) pa_nil))))))), rd_law_purse T vs H Q E h⟩
end
end CP

namespace CP
open PySem L2
section
variable {P : Program} {w : World} {K : PySem.W.Frag} {mg : Str → Option Value} {base : Heap}
def mixedM (s t : Int) : Int := ((s * 69069 + 104729 * t * t + t) % 2147483647 * ((s * 69069 + 104729 * t * t + t) % 2147483647) + 40503) % 2147483629 * 48271 % 2147483587
theorem mixedM_lt (s t : Int) : 0 ≤ mixedM s t ∧ mixedM s t < 2147483587 := by
  unfold mixedM
  omega
def sp_law_mixed (_ : Txt K mg) : Sp := fun vs H Q _ => match vs with
  | [.int s, .int t] => 0 ≤ s ∧ s < 2 ^ 40 ∧ 0 ≤ t ∧ t < 2 ^ 60 ∧ Q (.int (mixedM s t)) H
  | _ => False
def t_law_mixed (w : World) (T : Txt K mg) : TS := tSeq (tAsg (tOp oMod (tOp oAdd (tOp oAdd (tOp oMul (tVar 0) (tC (.int 69069))) (tOp oMul (tOp oMul (tC (.int 104729)) (tVar 1)) (tVar 1))) (tVar 1)) (tC (.int 2147483647))) (gName 2)) (tSeq (tAsg (tOp oMod (tOp oAdd (tOp oMul (tVar 2) (tVar 2)) (tC (.int 40503))) (tC (.int 2147483629))) (gName 2)) (tRet (tOp oMod (tOp oMul (tVar 2) (tC (.int 48271))) (tC (.int 2147483587)))))
theorem len_law_mixed (T : Txt K mg) : ∀ (vs : List V) (H : Hp) (Q : VK) (E : XK), sp_law_mixed T vs H Q E → vs.length = (["_law_seed", "_law_step"] : List Str).length := by
  intro vs H Q E h
  unfold sp_law_mixed at h
  split at h
  all_goals first | rfl | exact h.elim
theorem rd_law_mixed (T : Txt K mg) (vs : List V) (H : Hp) (Q : VK) (E : XK) (h : sp_law_mixed T vs H Q E) : t_law_mixed w T { nx := fun _ H' => Q .non H', rt := Q } (start ["_law_seed", "_law_step", "_law_found"] vs) H := by
  match vs, h with
  | [.int s, .int t], h =>
  obtain ⟨hs, hs2, ht, ht2, q⟩ := h
  unfold t_law_mixed
  walk_at "st"
  repeat walk_at "s"
  exact q

theorem ok_law_mixed (T : Txt K mg) : FnOk P w K mg base CX0 1 T.a_law_mixed T.fd_law_mixed ["_law_seed", "_law_step"] (sp_law_mixed T) :=
  T.F_law_mixed.ok sc_law_mixed (len_law_mixed T) fun cdv A outer s H vs Q E hr h => ⟨t_law_mixed w T, (pss_cons (ps_set (i := 2) sc_law_mixed.nd rfl (Or.inl rfl) (pe_op op_mod (pe_op op_add (pe_op op_add (pe_op op_mulW (pv 0) pe_int) (pe_op op_mulW (pe_op op_mulW pe_int (pv 1)) (pv 1))) (pv 1)) pe_int))
      (pss_cons (ps_set (i := 2) sc_law_mixed.nd rfl (Or.inl rfl) (pe_op op_mod (pe_op op_add (pe_op op_mulW (pv 2) (pv 2)) pe_int) pe_int))
      (pss_one (ps_ret (pe_op op_mod (pe_op op_mulW (pv 2) pe_int) pe_int))))), rd_law_mixed T vs H Q E h⟩
end
end CP

namespace CP
open PySem L2
section
variable {P : Program} {w : World} {K : PySem.W.Frag} {mg : Str → Option Value} {base : Heap}
/-- a draw below m leaves a purse, its third item at most 60 higher -/
def sp_law_draw (_ : Txt K mg) : Sp := fun vs H Q _ => match vs with
  | [.ref p, .int m] => ∃ x y z, Purse H p x y z ∧ z < 2 ^ 58 ∧ 0 < m ∧ m < 2 ^ 200 ∧ ∀ d H' x' z', 0 ≤ d → d < m → SB p H H' → Purse H' p x' y z' → z' ≤ z + 60 → Q (.int d) H'
  | _ => False
theorem purse_bits {m : Int} (h : 0 < m) (h2 : m < 2 ^ 200) : 0 ≤ ((Builtin.Int.intBits m : Nat) : Int) ∧ ((Builtin.Int.intBits m : Nat) : Int) ≤ 200 := by
  have := PyProof.Rows.intBits_le (show m.natAbs < 2 ^ 200 by omega)
  omega
def t_law_draw (w : World) (T : Txt K mg) : TS := tSeq (tIfS (tTest (tOp oGt (tOp (rIxL K) (tVar 0) (tC (.int 0))) (tC (.int 0)))) (tSeq (tAsg (tOp oMod (tOp (rIxL K) (tVar 0) (tC (.int 0))) (tVar 1)) (gName 2)) (tSeq (tAsg (tOp oDiv (tOp (rIxL K) (tVar 0) (tC (.int 0))) (tVar 1)) (gSub (tVar 0) (tC (.int 0)) rSetL)) (tRet (tVar 2)))) (tNext)) (tSeq (tAsg (tC (.int 0)) (gName 3)) (tSeq (tFor (iRng1 (tCons (tOp oAdd (tC (.int 1)) (tOp oDiv (tBits (tVar 1)) (tC (.int 28)))) (tNil))) (gName 4) (tSeq (tAsg (tOp oAdd (tOp (rIxL K) (tVar 0) (tC (.int 2))) (tC (.int 1))) (gSub (tVar 0) (tC (.int 2)) rSetL)) (tAsg (tOp oAdd (tOp oMul (tVar 3) (tC (.int 2147483587))) (tCall (sp_law_mixed T) [] E0 (tCons (tOp (rIxL K) (tVar 0) (tC (.int 1))) (tCons (tOp (rIxL K) (tVar 0) (tC (.int 2))) (tNil))))) (gName 3)))) (tRet (tOp oMod (tVar 3) (tVar 1)))))
theorem len_law_draw (T : Txt K mg) : ∀ (vs : List V) (H : Hp) (Q : VK) (E : XK), sp_law_draw T vs H Q E → vs.length = (["_law_purse_here", "_law_many"] : List Str).length := by
  intro vs H Q E h
  unfold sp_law_draw at h
  split at h
  all_goals first | rfl | exact h.elim
theorem rd_law_draw (T : Txt K mg) (vs : List V) (H : Hp) (Q : VK) (E : XK) (h : sp_law_draw T vs H Q E) : t_law_draw w T { nx := fun _ H' => Q .non H', rt := Q } (start ["_law_purse_here", "_law_many", "_law_drawn", "_law_found", "_law_piece"] vs) H := by
  match vs, h with
  | [.ref p, .int m], h =>
  obtain ⟨x, y, z, ⟨hp, x0, x1, y0, y1, z0⟩, hz, hm, hm2, q⟩ := h
  unfold t_law_draw
  walk_at "st"
  repeat walk_at "s"
  refine r_ixL (.of hp) (v := .int x) (by rfl) ?_
  repeat walk_at "s"
  refine if_d (fun k => ?_) fun k => ?_
  · repeat walk_at "s"
    refine r_ixL (.of hp) (v := .int x) (by rfl) ?_
    repeat walk_at "s"
    refine r_ixL (.of hp) (v := .int x) (by rfl) ?_
    repeat walk_at "s"
    refine r_setL (j := 0) hp (by rfl) fun H1 s1 p1 => ?_
    repeat walk_at "s"
    have d0 : 0 ≤ x / m := Int.ediv_nonneg x0 (by omega)
    have d1 : x / m ≤ x := Int.ediv_le_self _ x0
    exact q _ H1 _ z (Int.emod_nonneg _ (by omega)) (Int.emod_lt_of_pos _ hm) s1 ⟨p1, d0, by omega, y0, y1, z0⟩ (by omega)
  · repeat walk_at "s"
    have hb := purse_bits hm hm2
    generalize hg : ((Builtin.Int.intBits m : Nat) : Int) = b at hb ⊢
    refine r_rng (by omega) (by omega) ?_
    generalize hn : (1 + b / 28).toNat = n
    have hn2 : n ≤ 8 := by omega
    refine for_range (fun i σ H' => SB p H H' ∧ H' p = some (.lst [.int x, .int y, .int (z + (i : Int))]) ∧ ∃ (f : Int) (o : Option V), 0 ≤ f ∧ f < ((2 ^ (32 * i) : Nat) : Int) ∧ σ = [some (.ref p), some (.int m), none, some (.int f), o]) ⟨fun _ _ _ w => w, by rw [show ((0 : Nat) : Int) = 0 from rfl, Int.add_zero]; exact hp, 0, _, by decide, by decide, rfl⟩ ?_ ?_
    · rintro i σ H2 hi ⟨s2, p2, f, o, f0, f1, rfl⟩
      have hw : 2 ^ (32 * i) ≤ 2 ^ 256 := Nat.pow_le_pow_right (by decide) (by omega)
      have hw2 : 2 ^ (32 * (i + 1)) = 2 ^ (32 * i) * 2 ^ 32 := by rw [← Nat.pow_add]; rfl
      rw [hw2]
      generalize 2 ^ (32 * i) = w at hw f1 ⊢
      repeat walk_at "s"
      refine r_ixL (.of p2) (v := .int (z + i)) (by rfl) ?_
      repeat walk_at "s"
      refine r_setL (j := 2) p2 (by rfl) fun H3 s3 p3 => ?_
      have p4 : H3 p = some (.lst [.int x, .int y, .int (z + i + 1)]) := p3
      repeat walk_at "s"
      refine r_ixL (.of p4) (v := .int y) (by rfl) ?_
      repeat walk_at "s"
      refine r_ixL (.of p4) (v := .int (z + i + 1)) (by rfl) ?_
      repeat walk_at "s"
      refine ⟨y0, by omega, by omega, by omega, ?_⟩
      have ml := mixedM_lt y (z + i + 1)
      generalize mixedM y (z + i + 1) = g at ml ⊢
      repeat walk_at "s"
      refine ⟨fun b o hb hb' => s3 b o hb (s2 b o hb hb'), ?_, _, _, ?_, ?_, rfl⟩
      · rw [show z + ((i + 1 : Nat) : Int) = z + i + 1 by omega]
        exact p4
      · omega
      · omega
    · rintro σ H2 ⟨s2, p2, f, o, f0, f1, rfl⟩
      repeat walk_at "s"
      exact q _ H2 x (z + n) (Int.emod_nonneg _ (by omega)) (Int.emod_lt_of_pos _ hm) s2 ⟨p2, x0, x1, y0, y1, by omega⟩ (by omega)

theorem ok_law_draw (T : Txt K mg) : FnOk P w K mg base CX0 2 T.a_law_draw T.fd_law_draw ["_law_purse_here", "_law_many"] (sp_law_draw T) :=
  T.F_law_draw.ok sc_law_draw (len_law_draw T) fun cdv A outer s H vs Q E hr h => ⟨t_law_draw w T, (pss_cons (ps_if (pt_cmpR op_gt (pe_ix ix_list (pv 0) pe_int (fun _ _ => rfl)) pe_int (nomark _)) (pss_cons (ps_set (i := 2) sc_law_draw.nd rfl (Or.inl rfl) (pe_op op_mod (pe_ix ix_list (pv 0) pe_int (fun _ _ => rfl)) (pv 1)))
      (pss_cons (ps_asg (pe_op op_fdivW (pe_ix ix_list (pv 0) pe_int (fun _ _ => rfl)) (pv 1)) (pg_sub (pv 0) pe_int set_list))
      (pss_one (ps_ret (pv 2))))) pss_nil)
      (pss_cons (ps_set (i := 3) sc_law_draw.nd rfl (Or.inl rfl) pe_int)
      (pss_cons (ps_for PassesOwn.never rfl (pi_range1 (by rfl) T.n_range (pa_cons (pe_op op_add pe_int (pe_op op_fdivW (pe_bits (pv 1)) pe_int)) pa_nil)) (pg_name (i := 4) sc_law_draw.nd rfl (Or.inl rfl)) (pss_cons (ps_asg (pe_op op_add (pe_ix ix_list (pv 0) pe_int (fun _ _ => rfl)) pe_int) (pg_sub (pv 0) pe_int set_list))
      (pss_one (ps_set (i := 3) sc_law_draw.nd rfl (Or.inl rfl) (pe_op op_add (pe_op op_mulW (pv 3) pe_int) (pe_call (ok_law_mixed T) (hr.mono (by decide)) (by rfl) T.m__law_mixed T.F_law_mixed.kp (b_law_mixed T) .nil pass0 (pa_cons (pe_ix ix_list (pv 0) pe_int (fun _ _ => rfl)) (pa_cons (pe_ix ix_list (pv 0) pe_int (fun _ _ => rfl)) pa_nil))))))))
      (pss_one (ps_ret (pe_op op_mod (pv 3) (pv 1))))))), rd_law_draw T vs H Q E h⟩
end
end CP

namespace CP
open PySem L2
section
variable {P : Program} {w : World} {K : PySem.W.Frag} {mg : Str → Option Value} {base : Heap}
def sp_law_one_of (_ : Txt K mg) : Sp := fun vs H Q _ => match vs with
  | [.ref p, .ref a] => ∃ x y z xs, Purse H p x y z ∧ z < 2 ^ 58 ∧ H a = some (.lst xs) ∧ a ≠ p ∧ 0 < xs.length ∧ xs.length ≤ 1000 ∧ ∀ v H' x' z', v ∈ xs → SB p H H' → Purse H' p x' y z' → z' ≤ z + 60 → Q v H'
  | _ => False
def t_law_one_of (w : World) (T : Txt K mg) : TS := tRet (tOp (rIxL K) (tVar 1) (tCall (sp_law_draw T) [] E0 (tCons (tVar 0) (tCons (tCB (rLenA K) (tCons (tVar 1) (tNil))) (tNil)))))
theorem len_law_one_of (T : Txt K mg) : ∀ (vs : List V) (H : Hp) (Q : VK) (E : XK), sp_law_one_of T vs H Q E → vs.length = (["_law_purse_here", "_law_some"] : List Str).length := by
  intro vs H Q E h
  unfold sp_law_one_of at h
  split at h
  all_goals first | rfl | exact h.elim
theorem rd_law_one_of (T : Txt K mg) (vs : List V) (H : Hp) (Q : VK) (E : XK) (h : sp_law_one_of T vs H Q E) : t_law_one_of w T { nx := fun _ H' => Q .non H', rt := Q } (start ["_law_purse_here", "_law_some"] vs) H := by
  match vs, h with
  | [.ref p, .ref a], h =>
  obtain ⟨x, y, z, xs, hp, hz, ha, ne, l0, l1, q⟩ := h
  have sz : sizeLine = 16777216 := rfl
  unfold t_law_one_of
  walk_at "st"
  repeat walk_at "w"
  refine ⟨x, y, z, hp, hz, by omega, by omega, fun d H1 x1 z1 d0 d1 b1 hp1 hz1 => ?_⟩
  obtain ⟨i, rfl⟩ := Int.eq_ofNat_of_zero_le d0
  have hi : i < xs.length := by omega
  refine r_ixL (.of (b1 _ _ ne ha)) (atI_nat (List.getElem?_eq_getElem hi)) ?_
  exact q _ H1 x1 z1 (List.getElem_mem hi) b1 hp1 hz1

theorem ok_law_one_of (T : Txt K mg) : FnOk P w K mg base CX0 3 T.a_law_one_of T.fd_law_one_of ["_law_purse_here", "_law_some"] (sp_law_one_of T) :=
  T.F_law_one_of.ok sc_law_one_of (len_law_one_of T) fun cdv A outer s H vs Q E hr h => ⟨t_law_one_of w T, (pss_one (ps_ret (pe_ix ix_list (pv 1) (pe_call (ok_law_draw T) (hr.mono (by decide)) (by rfl) T.m__law_draw T.F_law_draw.kp (b_law_draw T) .nil pass0 (pa_cons (pv 0) (pa_cons (pe_callB call_lenA (by rfl) T.n_len (by decide +kernel) (pa_cons (pv 1) pa_nil)) pa_nil))) (fun _ _ => rfl)))), rd_law_one_of T vs H Q E h⟩
end
end CP

namespace CP
open PySem L2
section
variable {P : Program} {w : World} {K : PySem.W.Frag} {mg : Str → Option Value} {base : Heap}
def sp_law_shuffled (_ : Txt K mg) : Sp := fun vs H Q _ => match vs with
  | [.ref p, .ref a] => ∃ x y z xs, Purse H p x y z ∧ z < 2 ^ 57 ∧ H a = some (.lst xs) ∧ a ≠ p ∧ xs.length ≤ 2000 ∧ ∀ q ys H' x' z', ys.Perm xs → H q = none → SB p H H' → H' q = some (.lst ys) → Purse H' p x' y z' → z' ≤ z + 60 * xs.length → Q (.ref q) H'
  | _ => False
def t_law_shuffled (w : World) (T : Txt K mg) : TS := tSeq (tAsg (tLst (tNil)) (gName 2)) (tSeq (tFor (iList K (tVar 1)) (gName 3) (tDrop (tBM K "list" rInsL (tVar 2) (tCons (tCall (sp_law_draw T) [] E0 (tCons (tVar 0) (tCons (tOp oAdd (tCB (rLenA K) (tCons (tVar 2) (tNil))) (tC (.int 1))) (tNil)))) (tCons (tVar 3) (tNil)))))) (tRet (tVar 2)))
theorem len_law_shuffled (T : Txt K mg) : ∀ (vs : List V) (H : Hp) (Q : VK) (E : XK), sp_law_shuffled T vs H Q E → vs.length = (["_law_purse_here", "_law_some"] : List Str).length := by
  intro vs H Q E h
  unfold sp_law_shuffled at h
  split at h
  all_goals first | rfl | exact h.elim
theorem rd_law_shuffled (T : Txt K mg) (vs : List V) (H : Hp) (Q : VK) (E : XK) (h : sp_law_shuffled T vs H Q E) : t_law_shuffled w T { nx := fun _ H' => Q .non H', rt := Q } (start ["_law_purse_here", "_law_some", "_law_found", "_law_item"] vs) H := by
  match vs, h with
  | [.ref p, .ref a], h =>
  obtain ⟨x, y, z, xs, hp, hz, ha, ne, l1, q⟩ := h
  have sz : sizeLine = 16777216 := rfl
  unfold t_law_shuffled
  walk_at "st"
  repeat walk_at "w"
  rename_i f H1 f0 s1 hf
  have hp1 := hp.mono s1
  have pf : p ≠ f := ne_of_none hp.1 f0
  refine ⟨a, rfl, ⟨_, .of (CP.Same.to s1 ha)⟩, for_list (K := K) (a := a) (xs := xs) (fun i σ H' => SB p H H' ∧ (∃ x' z' ys, Purse H' p x' y z' ∧ z' ≤ z + 60 * i ∧ H' f = some (.lst ys) ∧ ys.Perm (xs.take i)) ∧ ∃ x3, σ = [some (.ref p), some (.ref a), some (.ref f), x3]) ⟨Same.sb' s1, ⟨x, z, [], hp1, by omega, hf, .refl _⟩, _, rfl⟩ (fun _ _ _ _ w => .of (w.1 _ _ ne ha)) ?_ ?_⟩
  · rintro i v σ H2 hx ⟨b2, ⟨x2, z2, ys, hp2, hz2, hy, pm⟩, x3, rfl⟩
    have il := (List.getElem?_eq_some_iff.mp hx).1
    have yl := pm.length_eq
    rw [List.length_take] at yl
    repeat walk_at "w"
    refine ⟨.inl ⟨rfl, _, .of hy⟩, ?_⟩
    repeat walk_at "w"
    refine ⟨x2, y, z2, hp2, by omega, by omega, by omega, fun d H3 x3 z3 d0 d1 b3 hp3 hz3 => ?_⟩
    obtain ⟨j, rfl⟩ := Int.eq_ofNat_of_zero_le d0
    have hy3 := b3 _ _ pf.symm hy
    repeat walk_at "w"
    refine r_insL hy3 (by omega) d0 (by omega) fun H4 b4 h4 => ?_
    rw [Int.toNat_natCast] at h4
    have b24 := SB.fresh (SB.trans' b2 b3) f0 b4
    refine ⟨b24, ⟨x3, z3, _, hp3.sb b4 pf, by omega, h4, ?_⟩, _, rfl⟩
    rw [take_succ hx]
    exact (ins_perm ys j v).trans ((List.Perm.cons v pm).trans (List.perm_append_singleton v _).symm)
  · rintro σ H2 ⟨b2, ⟨x2, z2, ys, hp2, hz2, hy, pm⟩, x3, rfl⟩
    rw [List.take_length] at pm
    repeat walk_at "w"
    exact q f ys H2 x2 z2 pm f0 b2 hy hp2 hz2

theorem ok_law_shuffled (T : Txt K mg) : FnOk P w K mg base CX0 3 T.a_law_shuffled T.fd_law_shuffled ["_law_purse_here", "_law_some"] (sp_law_shuffled T) :=
  T.F_law_shuffled.ok sc_law_shuffled (len_law_shuffled T) fun cdv A outer s H vs Q E hr h => ⟨t_law_shuffled w T, (pss_cons (ps_set (i := 2) sc_law_shuffled.nd rfl (Or.inl rfl) (pe_lst pa_nil))
      (pss_cons (ps_for PassesOwn.never rfl (pi_list (pv 1)) (pg_name (i := 3) sc_law_shuffled.nd rfl (Or.inl rfl)) (pss_one (ps_expr (pe_bm PySem.F.plainAttrs_list PySem.F.slot_list_insert PySem.F.type_list_insert mt_insL (pv 2) (pa_cons (pe_call (ok_law_draw T) (hr.mono (by decide)) (by rfl) T.m__law_draw T.F_law_draw.kp (b_law_draw T) .nil pass0 (pa_cons (pv 0) (pa_cons (pe_op op_add (pe_callB call_lenA (by rfl) T.n_len (by decide +kernel) (pa_cons (pv 2) pa_nil)) pe_int) pa_nil))) (pa_cons (pv 3) pa_nil))))))
      (pss_one (ps_ret (pv 2))))), rd_law_shuffled T vs H Q E h⟩
end
end CP

namespace CP
open PySem L2
section
variable {P : Program} {w : World} {K : PySem.W.Frag} {mg : Str → Option Value} {base : Heap}
def sp_law_letters (_ : Txt K mg) : Sp := fun vs H Q _ => match vs with
  | [.ref p, .int m] => ∃ x y z, Purse H p x y z ∧ z < 2 ^ 57 ∧ 0 ≤ m ∧ m ≤ 10 ∧ ∀ q l H' x' z', (∀ w ∈ l, w ∈ sizeW) → (l.length : Int) ≤ m → H q = none → SB p H H' → H' q = some (.lst (strL l)) → Purse H' p x' y z' → z' ≤ z + 1000 → Q (.ref q) H'
  | _ => False
def t_law_letters (w : World) (T : Txt K mg) : TS := tSeq (tAsg (tLst (tNil)) (gName 2)) (tSeq (tFor (iRng1 (tCons (tCall (sp_law_draw T) [] E0 (tCons (tVar 0) (tCons (tOp oAdd (tVar 1) (tC (.int 1))) (tNil)))) (tNil))) (gName 3) (tDrop (tBM K "list" rAppend (tVar 2) (tCons (tCall (sp_law_one_of T) [] E0 (tCons (tVar 0) (tCons (tLst (tCons (tC (.str "m")) (tCons (tC (.str "n")) (tCons (tC (.str "n")) (tCons (tC (.str "mn")) (tCons (tC (.str "p")) (tCons (tC (.str "abc")) (tCons (tC (.str "height")) (tCons (tC (.str "nm")) (tNil)))))))))) (tNil)))) (tNil))))) (tRet (tVar 2)))
theorem len_law_letters (T : Txt K mg) : ∀ (vs : List V) (H : Hp) (Q : VK) (E : XK), sp_law_letters T vs H Q E → vs.length = (["_law_purse_here", "_law_most"] : List Str).length := by
  intro vs H Q E h
  unfold sp_law_letters at h
  split at h
  all_goals first | rfl | exact h.elim
theorem rd_law_letters (T : Txt K mg) (vs : List V) (H : Hp) (Q : VK) (E : XK) (h : sp_law_letters T vs H Q E) : t_law_letters w T { nx := fun _ H' => Q .non H', rt := Q } (start ["_law_purse_here", "_law_most", "_law_found", "_law_turn"] vs) H := by
  match vs, h with
  | [.ref p, .int m], h =>
  obtain ⟨x, y, z, hp, hz, m0, m1, q⟩ := h
  have sz : sizeLine = 16777216 := rfl
  unfold t_law_letters
  walk_at "st"
  repeat walk_at "w"
  rename_i f H1 f0 s1 hf
  have hp1 := hp.mono s1
  have pf : p ≠ f := ne_of_none hp.1 f0
  refine ⟨x, y, z, hp1, by omega, by omega, by omega, fun d H2 x2 z2 d0 d1 b2 hp2 hz2 => ?_⟩
  obtain ⟨n, rfl⟩ := Int.eq_ofNat_of_zero_le d0
  have n10 : n ≤ 10 := by omega
  have hf2 := b2 _ _ pf.symm hf
  repeat walk_at "w"
  refine for_range (fun i σ H' => SB p H H' ∧ (∃ x' z' l, Purse H' p x' y z' ∧ z' ≤ z + 60 + 60 * i ∧ H' f = some (.lst (strL l)) ∧ (∀ w ∈ l, w ∈ sizeW) ∧ l.length = i) ∧ ∃ x3, σ = [some (.ref p), some (.int m), some (.ref f), x3]) ⟨SB.trans' (Same.sb' s1) b2, ⟨x2, z2, [], hp2, by omega, hf2, by simp, rfl⟩, _, rfl⟩ ?_ ?_
  · rintro i σ H3 hi ⟨b3, ⟨x3, z3, l, hp3, hz3, hl, lm, ll⟩, x4, rfl⟩
    have i10 : i < 10 := by omega
    repeat walk_at "w"
    refine ⟨.inl ⟨rfl, _, .of hl⟩, ?_⟩
    repeat walk_at "w"
    rename_i c H4 c0 s4 hc
    have hp4 := hp3.mono s4
    have pc : c ≠ p := (ne_of_none hp3.1 c0).symm
    refine ⟨x3, y, z3, strL sizeW, hp4, by omega, hc, pc, by decide, by decide, fun v H5 x5 z5 hv b5 hp5 hz5 => ?_⟩
    obtain ⟨w, hw, rfl⟩ := List.mem_map.mp hv
    have hl5 := b5 _ _ pf.symm (CP.Same.to s4 hl)
    repeat walk_at "w"
    refine r_app hl5 (by rw [strL_len]; omega) fun H6 b6 h6 => ?_
    refine ⟨SB.fresh (SB.trans' (SB.trans' b3 (Same.sb' s4)) b5) f0 b6, ⟨x5, z5, l ++ [w], hp5.sb b6 pf, by omega, by rw [strL_app]; exact h6, fun u hu => ?_, by rw [List.length_append, ll]; rfl⟩, _, rfl⟩
    rcases List.mem_append.mp hu with hu | hu
    · exact lm u hu
    · rw [List.mem_singleton.mp hu]; exact hw
  · rintro σ H3 ⟨b3, ⟨x3, z3, l, hp3, hz3, hl, lm, ll⟩, x4, rfl⟩
    repeat walk_at "w"
    exact q f l H3 x3 z3 lm (by omega) f0 b3 hl hp3 (by omega)

theorem ok_law_letters (T : Txt K mg) : FnOk P w K mg base CX0 4 T.a_law_letters T.fd_law_letters ["_law_purse_here", "_law_most"] (sp_law_letters T) :=
  T.F_law_letters.ok sc_law_letters (len_law_letters T) fun cdv A outer s H vs Q E hr h => ⟨t_law_letters w T, (pss_cons (ps_set (i := 2) sc_law_letters.nd rfl (Or.inl rfl) (pe_lst pa_nil))
      (pss_cons (ps_for PassesOwn.never rfl (pi_range1 (by rfl) T.n_range (pa_cons (pe_call (ok_law_draw T) (hr.mono (by decide)) (by rfl) T.m__law_draw T.F_law_draw.kp (b_law_draw T) .nil pass0 (pa_cons (pv 0) (pa_cons (pe_op op_add (pv 1) pe_int) pa_nil))) pa_nil)) (pg_name (i := 3) sc_law_letters.nd rfl (Or.inl rfl)) (pss_one (ps_expr (pe_bm PySem.F.plainAttrs_list PySem.F.slot_list_append PySem.F.type_list_append mt_append (pv 2) (pa_cons (pe_call (ok_law_one_of T) (hr.mono (by decide)) (by rfl) T.m__law_one_of T.F_law_one_of.kp (b_law_one_of T) .nil pass0 (pa_cons (pv 0) (pa_cons (pe_lst (pa_cons pe_str (pa_cons pe_str (pa_cons pe_str (pa_cons pe_str (pa_cons pe_str (pa_cons pe_str (pa_cons pe_str (pa_cons pe_str pa_nil))))))))) pa_nil))) pa_nil)))))
      (pss_one (ps_ret (pv 2))))), rd_law_letters T vs H Q E h⟩
end
end CP

namespace CP
open PySem L2
section
variable {P : Program} {w : World} {K : PySem.W.Frag} {mg : Str → Option Value} {base : Heap}
def sp_law_names (_ : Txt K mg) : Sp := fun vs H Q _ => match vs with
  | [.ref p, .int m] => ∃ x y z, Purse H p x y z ∧ z < 2 ^ 57 ∧ 1 ≤ m ∧ m ≤ 8 ∧ ∀ q l H' x' z', l.Nodup → (∀ w ∈ l, w ∈ nameW) → (l.length : Int) = m → H q = none → SB p H H' → H' q = some (.lst (strL l)) → Purse H' p x' y z' → z' ≤ z + 1000 → Q (.ref q) H'
  | _ => False
def t_law_names (w : World) (T : Txt K mg) : TS := tRet (tSl (rSlL K) (tCall (sp_law_shuffled T) [] E0 (tCons (tVar 0) (tCons (tLst (tCons (tC (.str "r")) (tCons (tC (.str "c")) (tCons (tC (.str "z")) (tCons (tC (.str "kk")) (tCons (tC (.str "a")) (tCons (tC (.str "page")) (tCons (tC (.str "columnes")) (tCons (tC (.str "abcdefghij")) (tNil)))))))))) (tNil)))) tNoPart (tPart (tVar 1)))
theorem len_law_names (T : Txt K mg) : ∀ (vs : List V) (H : Hp) (Q : VK) (E : XK), sp_law_names T vs H Q E → vs.length = (["_law_purse_here", "_law_many"] : List Str).length := by
  intro vs H Q E h
  unfold sp_law_names at h
  split at h
  all_goals first | rfl | exact h.elim
theorem rd_law_names (T : Txt K mg) (vs : List V) (H : Hp) (Q : VK) (E : XK) (h : sp_law_names T vs H Q E) : t_law_names w T { nx := fun _ H' => Q .non H', rt := Q } (start ["_law_purse_here", "_law_many"] vs) H := by
  match vs, h with
  | [.ref p, .int m], h =>
  obtain ⟨x, y, z, hp, hz, m0, m1, q⟩ := h
  obtain ⟨n, rfl⟩ := Int.eq_ofNat_of_zero_le (by omega : 0 ≤ m)
  have sz : sizeLine = 16777216 := rfl
  unfold t_law_names
  walk_at "st"
  repeat walk_at "w"
  rename_i c H1 c0 s1 hc
  have hp1 := hp.mono s1
  have pc : c ≠ p := (ne_of_none hp.1 c0).symm
  refine ⟨x, y, z, strL nameW, hp1, by omega, hc, pc, by decide, fun f ys H2 x2 z2 pm f0 b2 hf hp2 hz2 => ?_⟩
  obtain ⟨l, rfl, pl⟩ := strs_of_perm pm
  have z3 : z2 ≤ z + 60 * 8 := hz2
  have ln : l.length = 8 := pl.length_eq
  repeat walk_at "w"
  rename_i g H3 g0 s3 hg
  rw [cut_strs] at hg
  have b3 := SB.trans' b2 (Same.sb' s3)
  refine q g (l.take n) H3 x2 z2 (((pl.nodup_iff).mpr nameW_nd).sublist (List.take_sublist ..)) (fun w hw => pl.mem_iff.mp (List.mem_of_mem_take hw)) (by rw [List.length_take]; omega) ?_ (SB.trans' (Same.sb' s1) b3) hg (hp2.mono s3) (by omega)
  exact s1.free (SB.free' b2 hp2.1 g0)

theorem ok_law_names (T : Txt K mg) : FnOk P w K mg base CX0 4 T.a_law_names T.fd_law_names ["_law_purse_here", "_law_many"] (sp_law_names T) :=
  T.F_law_names.ok sc_law_names (len_law_names T) fun cdv A outer s H vs Q E hr h => ⟨t_law_names w T, (pss_one (ps_ret (pe_slice sl_list (pe_call (ok_law_shuffled T) (hr.mono (by decide)) (by rfl) T.m__law_shuffled T.F_law_shuffled.kp (b_law_shuffled T) .nil pass0 (pa_cons (pv 0) (pa_cons (pe_lst (pa_cons pe_str (pa_cons pe_str (pa_cons pe_str (pa_cons pe_str (pa_cons pe_str (pa_cons pe_str (pa_cons pe_str (pa_cons pe_str pa_nil))))))))) pa_nil))) po_none (po_some (pv 1))))), rd_law_names T vs H Q E h⟩
end
end CP

namespace CP
open PySem L2
section
variable {P : Program} {w : World} {K : PySem.W.Frag} {mg : Str → Option Value} {base : Heap}
def sp_law_chain (_ : Txt K mg) : Sp := fun vs H Q _ => match vs with
  | [.ref p, .int m, .int n] => ∃ x y z, Purse H p x y z ∧ z < 2 ^ 56 ∧ 1 ≤ m ∧ m ≤ 8 ∧ 1 ≤ n ∧ n < 2 ^ 100 ∧ ∀ q rows H' x' z', Drawn rows → (rows.map (·.1)).Nodup → (rows.length : Int) = m → H q = none → SB p H H' → RowsAt (hid2 p p H') q rows → Purse H' p x' y z' → z' ≤ z + 100000 → Q (.ref q) H'
  | _ => False
def t_law_chain (w : World) (T : Txt K mg) : TS := tSeq (tPar 3 4 (tCons (tLst (tNil)) (tCons (tLst (tNil)) (tNil)))) (tSeq (tFor (iList K (tCall (sp_law_names T) [] E0 (tCons (tVar 0) (tCons (tVar 1) (tNil))))) (gName 5) (tSeq (tAsg (tIf (tTest (tOp rEq (tCall (sp_law_draw T) [] E0 (tCons (tVar 0) (tCons (tVar 2) (tNil)))) (tC (.int 0)))) (tCall (sp_law_letters T) [] E0 (tCons (tVar 0) (tCons (tC (.int 2)) (tNil)))) (tLst (tNil))) (gName 6)) (tSeq (tAsg (tCall (sp_law_letters T) [] E0 (tCons (tVar 0) (tCons (tOp (rIxL K) (tLst (tCons (tC (.int 2)) (tCons (tC (.int 2)) (tCons (tC (.int 3)) (tNil))))) (tCall (sp_law_draw T) [] E0 (tCons (tVar 0) (tCons (tC (.int 3)) (tNil))))) (tNil)))) (gName 7)) (tSeq (tAsg (tCall (sp_law_shuffled T) [] E0 (tCons (tVar 0) (tCons (tOp rCat (tVar 4) (tVar 6)) (tNil)))) (gName 8)) (tSeq (tIfS (tTest (tOp oGt (tCB (rLenA K) (tCons (tVar 8) (tNil))) (tC (.int 6)))) (tPar 7 8 (tCons (tLst (tNil)) (tCons (tLst (tNil)) (tNil)))) (tNext)) (tSeq (tDrop (tBM K "list" rAppend (tVar 3) (tCons (tTup (tCons (tVar 5) (tCons (tVar 7) (tCons (tVar 8) (tNil))))) (tNil)))) (tAsg (tIf (tTest (tOp (rNeX K) (tVar 7) (tLst (tNil)))) (tSl (rSlL K) (tOp rCat (tVar 8) (tVar 7)) tNoPart (tPart (tC (.int 6)))) (tVar 4)) (gName 4)))))))) (tRet (tVar 3)))
theorem len_law_chain (T : Txt K mg) : ∀ (vs : List V) (H : Hp) (Q : VK) (E : XK), sp_law_chain T vs H Q E → vs.length = (["_law_purse_here", "_law_many", "_law_often"] : List Str).length := by
  intro vs H Q E h
  unfold sp_law_chain at h
  split at h
  all_goals first | rfl | exact h.elim
theorem rd_law_chain (T : Txt K mg) (vs : List V) (H : Hp) (Q : VK) (E : XK) (h : sp_law_chain T vs H Q E) : t_law_chain w T { nx := fun _ H' => Q .non H', rt := Q } (start ["_law_purse_here", "_law_many", "_law_often", "_law_rows", "_law_due", "_law_word", "_law_extra", "_law_span", "_law_step"] vs) H := by
  match vs, h with
  | [.ref p, .int m, .int n], h =>
  obtain ⟨x, y, z, hp, hz, m0, m1, n0, n1, q⟩ := h
  have sz : sizeLine = 16777216 := rfl
  unfold t_law_chain
  walk_at "st"
  repeat walk_at "w"
  rename_i c H1 c0 s1 hc d H2 d0 s2 hd
  have hp2 := (hp.mono s1).mono s2
  have C0 : H c = none := c0
  have hc2 := CP.Same.to s2 hc
  have S2 := s1.trans s2
  refine ⟨x, y, z, hp2, by omega, m0, m1, fun e nm H3 x3 z3 nnd nmem nlen e0 b3 he hp3 hz3 => ?_⟩
  have pc : p ≠ c := ne_of_none hp.1 c0
  have pd : p ≠ d := ne_of_none (hp.mono s1).1 d0
  have B3 := SB.trans' (Same.sb' S2) b3
  have nl : nm.length ≤ 8 := by omega
  have dc : c ≠ d := ne_of_none hc d0
  have pe : p ≠ e := ne_of_none hp2.1 e0
  have ce : c ≠ e := ne_of_none hc2 e0
  refine ⟨e, rfl, ⟨_, .of he⟩, for_list (K := K) (a := e) (xs := strL nm) (fun i σ H' => SB p H H' ∧ SB2 p c H3 H' ∧ (∃ x' z' a due vs rows, Purse H' p x' y z' ∧ z' ≤ z + 1000 + 10000 * i ∧ H' a = some (.lst (strL due)) ∧ a ≠ p ∧ a ≠ c ∧ (∀ w ∈ due, w ∈ sizeW) ∧ due.length ≤ 6 ∧ H' c = some (.lst vs) ∧ Paired (SideAt (hid2 p c H')) vs rows ∧ Drawn rows ∧ rows.map (·.1) = nm.take i ∧ σ[4]? = some (some (.ref a))) ∧ ∃ x4 x5 x6 x7 x8, σ = [some (.ref p), some (.int m), some (.int n), some (.ref c), x4, x5, x6, x7, x8]) ⟨B3, SB2.refl, ⟨x3, z3, d, [], [], [], hp3, by omega, b3 _ _ pd.symm hd, pd.symm, dc.symm, by simp, by simp, b3 _ _ pc.symm hc2, .nil, ⟨by simp, by simp, by simp⟩, rfl, rfl⟩, _, _, _, _, _, rfl⟩ (fun _ _ _ _ w => .of (w.2.1 _ _ pe.symm ce.symm he)) ?_ ?_⟩
  · rintro i v σ H4 hx ⟨b4, t4, ⟨x4, z4, a, due, vs, rows, hp4, hz4, ha, nap, nac, dm, dl, hv, pw, dr, en, hσ⟩, y4, y5, y6, y7, y8, rfl⟩
    obtain ⟨rfl⟩ : y4 = some (.ref a) := Option.some.inj hσ
    obtain ⟨w, hw, rfl⟩ := strL_get hx
    have il : i < nm.length := (List.getElem?_eq_some_iff.mp hw).1
    have rl : rows.length = i := by
      have := congrArg List.length en
      rw [List.length_map, List.length_take] at this
      omega
    have wl := pd_len pw
    repeat walk_at "w"
    refine ⟨x4, y, z4, hp4, by omega, by omega, by omega, fun d4 H5 x5 z5 d0 d1 b5 hp5 hz5 => ?_⟩
    have ha5 := b5 _ _ nap ha
    have hv5 := b5 _ _ pc.symm hv
    repeat walk_at "w"
    refine if_d (fun k => ?cgA) fun k => ?cgB
    case' cgA =>
      repeat walk_at "w"
      refine ⟨x5, y, z5, hp5, by omega, by decide, by decide, fun g ex H6 x6 z6 em el g0 b6 hg hp6 hz6 => ?_⟩
      have t6 := SB.trans' b5 b6
      have el : ex.length ≤ 2 := by omega
      repeat walk_at "w"
      rename_i c2 H7 c20 s7 hc7
      have hg7 := CP.Same.to s7 hg
      have hp7 := hp6.mono s7
      have c2p : c2 ≠ p := (ne_of_none hp6.1 c20).symm
      have t7 := SB.trans' t6 (Same.sb' s7)
      have gp : g ≠ p := (ne_of_none hp5.1 g0).symm
      have hz6' : z6 ≤ z4 + 1060 := by omega
    case' cgB =>
      repeat walk_at "w"
      rename_i g H6 g0 s6 hg c2 H7 c20 s7 hc7
      obtain ⟨ex, hg7, em, el⟩ : ∃ ex, H7 g = some (.lst (strL ex)) ∧ (∀ w ∈ ex, w ∈ sizeW) ∧ ex.length ≤ 2 := ⟨[], CP.Same.to s7 hg, by simp, by simp⟩
      obtain ⟨x6, z6, hp7, hz6'⟩ : ∃ x6 z6, Purse H7 p x6 y z6 ∧ z6 ≤ z4 + 1060 := ⟨x5, z5, (hp5.mono s6).mono s7, by omega⟩
      have c2p : c2 ≠ p := (ne_of_none (hp5.mono s6).1 c20).symm
      have t7 := SB.trans' b5 (Same.sb' (s6.trans s7))
      have gp : g ≠ p := (ne_of_none hp5.1 g0).symm
    all_goals
      refine ⟨x6, y, z6, hp7, by omega, by omega, by omega, fun d8 H8 x8 z8 d80 d81 b8 hp8 hz8 => ?_⟩
      have hc8 := b8 _ _ c2p hc7
      obtain ⟨mv, hmv, mv0, mv1⟩ : ∃ mv, atI [V.int 2, .int 2, .int 3] d8 = some (.int mv) ∧ 0 ≤ mv ∧ mv ≤ 3 := by
        have : d8 = 0 ∨ d8 = 1 ∨ d8 = 2 := by omega
        rcases this with rfl | rfl | rfl
        · exact ⟨2, by rfl, by decide, by decide⟩
        · exact ⟨2, by rfl, by decide, by decide⟩
        · exact ⟨3, by rfl, by decide, by decide⟩
      refine r_ixL (.of hc8) hmv ?_
      repeat walk_at "w"
      refine ⟨x8, y, z8, hp8, by omega, mv0, by omega, fun sa sl H9 x9 z9 sm sll sa0 b9 hs hp9 hz9 => ?_⟩
      have t8 := SB.trans' t7 b8
      have t9 := SB.trans' t8 b9
      have ha9 := t9 _ _ nap ha
      have hg9 := b9 _ _ gp (b8 _ _ gp hg7)
      have sap : sa ≠ p := (ne_of_none hp8.1 sa0).symm
      have sac : sa ≠ c := (ne_of_none (t8 _ _ pc.symm hv) sa0).symm
      repeat walk_at "w"
      refine r_cat ha9 hg9 (by rw [strL_len, strL_len]; omega) fun ca H10 ca0 s10 hca => ?_
      rw [← strL_app] at hca
      repeat walk_at "w"
      have hp10 := hp9.mono s10
      refine ⟨x9, y, z9, strL (due ++ ex), hp10, by omega, hca, (ne_of_none hp9.1 ca0).symm, by rw [strL_len, List.length_append]; omega, fun ta ys H11 x11 z11 pm ta0 b11 hta hp11 hz11 => ?_⟩
      obtain ⟨tl, rfl, ptl⟩ := strs_of_perm pm
      have tln := ptl.length_eq
      rw [List.length_append] at tln
      rw [strL_len, List.length_append] at hz11
      have hz11' : z11 ≤ z9 + 600 := by omega
      have tm : ∀ w ∈ tl, w ∈ sizeW := fun w hw => (List.mem_append.mp (ptl.mem_iff.mp hw)).elim (dm w) (em w)
      have t11 : SB p H4 H11 := SB.trans' (SB.trans' t9 (Same.sb' s10)) b11
      have hs11 := b11 _ _ sap (CP.Same.to s10 hs)
      have tap : ta ≠ p := (ne_of_none hp10.1 ta0).symm
      have tac : ta ≠ c := (ne_of_none (CP.Same.to s10 (t9 _ _ pc.symm hv)) ta0).symm
      have sl3 : sl.length ≤ 3 := by omega
      have hz11 : z11 ≤ z4 + 9000 := by omega
      repeat walk_at "w"
      refine if_d (fun k6 => ?_) fun k6 => ?_
      · repeat walk_at "w"
        rename_i fa H12 fa0 s12 hfa ga H13 ga0 s13 hga
        have T13 := SB.trans' t11 (Same.sb' (s12.trans s13))
        have hp13 := (hp11.mono s12).mono s13
        have hv11 := t11 _ _ pc.symm hv
        have fap : fa ≠ p := (ne_of_none hp11.1 fa0).symm
        have fac : fa ≠ c := (ne_of_none hv11 fa0).symm
        have gap : ga ≠ p := (ne_of_none (hp11.mono s12).1 ga0).symm
        have gac : ga ≠ c := (ne_of_none (CP.Same.to s12 hv11) ga0).symm
        have hfa : H13 fa = some (.lst (strL [])) := CP.Same.to s13 hfa
        have hga : H13 ga = some (.lst (strL [])) := hga
        have nomem : ∀ x ∈ ([] : List Str), x ∈ sizeW := by simp
        have nolen : ([] : List Str).length ≤ 3 := by decide
        have nolen6 : ([] : List Str).length ≤ 6 := by decide
        have hv12 := T13 _ _ pc.symm hv
        repeat walk_at "w"
        refine ⟨.inl ⟨rfl, _, .of hv12⟩, ?_⟩
        repeat walk_at "w"
        rename_i tu H14 tu0 s14 htu
        refine r_app (CP.Same.to s14 hv12) (by omega) fun H15 b15 h15 => ?_
        have tup : tu ≠ p := (ne_of_none hp13.1 tu0).symm
        have tuc : tu ≠ c := (ne_of_none hv12 tu0).symm
        have hfa15 := b15 _ _ fac (CP.Same.to s14 hfa)
        have hga15 := b15 _ _ gac (CP.Same.to s14 hga)
        have htu15 := b15 _ _ tuc htu
        have ha15 := b15 _ _ nac (CP.Same.to s14 (T13 _ _ nap ha))
        have hp15 := (hp13.mono s14).sb b15 pc
        have pw15 : Paired (SideAt (hid2 p c H15)) (vs ++ [.ref tu]) (rows ++ [(w, ([] : List Str), ([] : List Str))]) := pd_app (sides_mono pw (((hid2_p T13).trans (hid2_s s14)).trans (hid2_q b15))) (pd_one (SideAt.at2 htu15 hfa15 hga15 tup tuc fap fac gap gac))
        have B15 : SB p H H15 := SB.fresh (SB.trans' (SB.trans' b4 T13) (Same.sb' s14)) C0 b15
        have T15 : SB2 p c H3 H15 := ((t4.p T13).p (Same.sb' s14)).q b15
        have dr15 := dr.add (nmem w (List.mem_of_getElem? hw)) nomem nolen nomem nolen6
        have en15 : (rows ++ [(w, ([] : List Str), ([] : List Str))]).map (·.1) = nm.take (i + 1) := by rw [List.map_append, en, take_succ hw]; rfl
        repeat walk_at "w"
        rename_i L H16 L0 s16 hL
        by_cases nf : ([] : List Str) = []
        · have hfa16 : H16 fa = some (.lst (strL [])) := by rw [CP.Same.to s16 hfa15, nf]
          refine nil_neX0 (.of hfa16) (.of hL) ?_
          repeat walk_at "w"
          exact ⟨SB.trans' B15 (Same.sb' s16), T15.p (Same.sb' s16), ⟨_, _, a, due, _, _, hp15.mono s16, by omega, CP.Same.to s16 ha15, nap, nac, dm, dl, CP.Same.to s16 h15, sides_mono pw15 (hid2_s s16), dr15, en15, rfl⟩, _, _, _, _, _, rfl⟩
        · refine nil_neX (.of (CP.Same.to s16 hfa15)) (.of hL) (strs_dp fun x hx => let_lay (sizeW_let x (nomem x hx))) ?_
          rw [show (strL ([] : List Str)).isEmpty = false by
            cases h : ([] : List Str) with
            | nil => exact absurd h nf
            | cons _ _ => rfl]
          repeat walk_at "w"
          refine r_cat (CP.Same.to s16 hga15) (CP.Same.to s16 hfa15) (by first | (rw [strL_len, strL_len]; omega) | (show 0 + 0 ≤ sizeLine; omega)) fun ka H17 ka0 s17 hka => ?_
          rw [← strL_app] at hka
          repeat walk_at "w"
          rename_i la H18 la0 s18 hla
          rw [show cutV (strL (([] : List Str) ++ ([] : List Str))) none (some 6) = strL ((([] : List Str) ++ ([] : List Str)).take 6) from cut_strs _ 6] at hla
          have s168 := (s16.trans s17).trans s18
          have lap : la ≠ p := (ne_of_none ((hp15.mono s16).mono s17).1 la0).symm
          have lac : la ≠ c := (ne_of_none (CP.Same.to s17 (CP.Same.to s16 h15)) la0).symm
          exact ⟨SB.trans' B15 (Same.sb' s168), T15.p (Same.sb' s168), ⟨_, _, la, _, _, _, hp15.mono s168, by omega, hla, lap, lac, fun x hx => (List.mem_append.mp (List.mem_of_mem_take hx)).elim (nomem x) (nomem x), by rw [List.length_take]; omega, CP.Same.to s168 h15, sides_mono pw15 (hid2_s s168), dr15, en15, rfl⟩, _, _, _, _, _, rfl⟩
      · rw [strL_len] at k6
        have tl6 : tl.length ≤ 6 := by omega
        have hv12 := t11 _ _ pc.symm hv
        repeat walk_at "w"
        refine ⟨.inl ⟨rfl, _, .of hv12⟩, ?_⟩
        repeat walk_at "w"
        rename_i tu H14 tu0 s14 htu
        refine r_app (CP.Same.to s14 hv12) (by omega) fun H15 b15 h15 => ?_
        have tup : tu ≠ p := (ne_of_none hp11.1 tu0).symm
        have tuc : tu ≠ c := (ne_of_none hv12 tu0).symm
        have hfa15 := b15 _ _ sac (CP.Same.to s14 hs11)
        have hga15 := b15 _ _ tac (CP.Same.to s14 hta)
        have htu15 := b15 _ _ tuc htu
        have ha15 := b15 _ _ nac (CP.Same.to s14 (t11 _ _ nap ha))
        have hp15 := (hp11.mono s14).sb b15 pc
        have pw15 : Paired (SideAt (hid2 p c H15)) (vs ++ [.ref tu]) (rows ++ [(w, sl, tl)]) := pd_app (sides_mono pw (((hid2_p t11).trans (hid2_s s14)).trans (hid2_q b15))) (pd_one (SideAt.at2 htu15 hfa15 hga15 tup tuc sap sac tap tac))
        have B15 : SB p H H15 := SB.fresh (SB.trans' (SB.trans' b4 t11) (Same.sb' s14)) C0 b15
        have T15 : SB2 p c H3 H15 := ((t4.p t11).p (Same.sb' s14)).q b15
        have dr15 := dr.add (nmem w (List.mem_of_getElem? hw)) sm sl3 tm tl6
        have en15 : (rows ++ [(w, sl, tl)]).map (·.1) = nm.take (i + 1) := by rw [List.map_append, en, take_succ hw]; rfl
        repeat walk_at "w"
        rename_i L H16 L0 s16 hL
        by_cases nf : sl = []
        · have hfa16 : H16 sa = some (.lst (strL [])) := by rw [CP.Same.to s16 hfa15, nf]
          refine nil_neX0 (.of hfa16) (.of hL) ?_
          repeat walk_at "w"
          exact ⟨SB.trans' B15 (Same.sb' s16), T15.p (Same.sb' s16), ⟨_, _, a, due, _, _, hp15.mono s16, by omega, CP.Same.to s16 ha15, nap, nac, dm, dl, CP.Same.to s16 h15, sides_mono pw15 (hid2_s s16), dr15, en15, rfl⟩, _, _, _, _, _, rfl⟩
        · refine nil_neX (.of (CP.Same.to s16 hfa15)) (.of hL) (strs_dp fun x hx => let_lay (sizeW_let x (sm x hx))) ?_
          rw [show (strL sl).isEmpty = false by
            cases h : sl with
            | nil => exact absurd h nf
            | cons _ _ => rfl]
          repeat walk_at "w"
          refine r_cat (CP.Same.to s16 hga15) (CP.Same.to s16 hfa15) (by first | (rw [strL_len, strL_len]; omega) | (show 0 + 0 ≤ sizeLine; omega)) fun ka H17 ka0 s17 hka => ?_
          rw [← strL_app] at hka
          repeat walk_at "w"
          rename_i la H18 la0 s18 hla
          rw [show cutV (strL (tl ++ sl)) none (some 6) = strL ((tl ++ sl).take 6) from cut_strs _ 6] at hla
          have s168 := (s16.trans s17).trans s18
          have lap : la ≠ p := (ne_of_none ((hp15.mono s16).mono s17).1 la0).symm
          have lac : la ≠ c := (ne_of_none (CP.Same.to s17 (CP.Same.to s16 h15)) la0).symm
          exact ⟨SB.trans' B15 (Same.sb' s168), T15.p (Same.sb' s168), ⟨_, _, la, _, _, _, hp15.mono s168, by omega, hla, lap, lac, fun x hx => (List.mem_append.mp (List.mem_of_mem_take hx)).elim (tm x) (sm x), by rw [List.length_take]; omega, CP.Same.to s168 h15, sides_mono pw15 (hid2_s s168), dr15, en15, rfl⟩, _, _, _, _, _, rfl⟩
  · rintro σ H4 ⟨b4, t4, ⟨x4, z4, a, due, vs, rows, hp4, hz4, ha, nap, nac, dm, dl, hv, pw, dr, en, hσ⟩, y4, y5, y6, y7, y8, rfl⟩
    rw [strL_len, List.take_length] at en
    have rl : rows.length = nm.length := by rw [← en, List.length_map]
    have nl2 : (strL nm).length ≤ 8 := by rw [strL_len]; exact nl
    repeat walk_at "w"
    exact q c rows H4 x4 z4 dr (by rw [en]; exact nnd) (by omega) C0 b4 ⟨vs, hid2_at hv pc.symm pc.symm, sides_mono pw hid2_pp⟩ hp4 (by omega)

theorem ok_law_chain (T : Txt K mg) : FnOk P w K mg base CX0 5 T.a_law_chain T.fd_law_chain ["_law_purse_here", "_law_many", "_law_often"] (sp_law_chain T) :=
  T.F_law_chain.ok sc_law_chain (len_law_chain T) fun cdv A outer s H vs Q E hr h => ⟨t_law_chain w T, (pss_cons (ps_par (i := 3) (j := 4) rfl sc_law_chain.nd rfl rfl (by decide) rfl rfl (pa_cons (pe_lst pa_nil) (pa_cons (pe_lst pa_nil) pa_nil)) (by rfl))
      (pss_cons (ps_for PassesOwn.never rfl (pi_list (pe_call (ok_law_names T) (hr.mono (by decide)) (by rfl) T.m__law_names T.F_law_names.kp (b_law_names T) .nil pass0 (pa_cons (pv 0) (pa_cons (pv 1) pa_nil)))) (pg_name (i := 5) sc_law_chain.nd rfl (Or.inl rfl)) (pss_cons (ps_set (i := 6) sc_law_chain.nd rfl (Or.inl rfl) (pe_ifExp (pt_cmpR op_eq (pe_call (ok_law_draw T) (hr.mono (by decide)) (by rfl) T.m__law_draw T.F_law_draw.kp (b_law_draw T) .nil pass0 (pa_cons (pv 0) (pa_cons (pv 2) pa_nil))) pe_int (nomark _)) (pe_call (ok_law_letters T) (hr.mono (by decide)) (by rfl) T.m__law_letters T.F_law_letters.kp (b_law_letters T) .nil pass0 (pa_cons (pv 0) (pa_cons pe_int pa_nil))) (pe_lst pa_nil)))
      (pss_cons (ps_set (i := 7) sc_law_chain.nd rfl (Or.inl rfl) (pe_call (ok_law_letters T) (hr.mono (by decide)) (by rfl) T.m__law_letters T.F_law_letters.kp (b_law_letters T) .nil pass0 (pa_cons (pv 0) (pa_cons (pe_ix ix_list (pe_lst (pa_cons pe_int (pa_cons pe_int (pa_cons pe_int pa_nil)))) (pe_call (ok_law_draw T) (hr.mono (by decide)) (by rfl) T.m__law_draw T.F_law_draw.kp (b_law_draw T) .nil pass0 (pa_cons (pv 0) (pa_cons pe_int pa_nil))) (fun _ _ => rfl)) pa_nil))))
      (pss_cons (ps_set (i := 8) sc_law_chain.nd rfl (Or.inl rfl) (pe_call (ok_law_shuffled T) (hr.mono (by decide)) (by rfl) T.m__law_shuffled T.F_law_shuffled.kp (b_law_shuffled T) .nil pass0 (pa_cons (pv 0) (pa_cons (pe_op op_cat (pv 4) (pv 6)) pa_nil))))
      (pss_cons (ps_if (pt_cmpR op_gt (pe_callB call_lenA (by rfl) T.n_len (by decide +kernel) (pa_cons (pv 8) pa_nil)) pe_int (nomark _)) (pss_one (ps_par (i := 7) (j := 8) rfl sc_law_chain.nd rfl rfl (by decide) rfl rfl (pa_cons (pe_lst pa_nil) (pa_cons (pe_lst pa_nil) pa_nil)) (by rfl))) pss_nil)
      (pss_cons (ps_expr (pe_bm PySem.F.plainAttrs_list PySem.F.slot_list_append PySem.F.type_list_append mt_append (pv 3) (pa_cons (pe_tup (pa_cons (pv 5) (pa_cons (pv 7) (pa_cons (pv 8) pa_nil)))) pa_nil)))
      (pss_one (ps_set (i := 4) sc_law_chain.nd rfl (Or.inl rfl) (pe_ifExp (pt_cmpR (op_neX hr.units) (pv 7) (pe_lst pa_nil) (nomark _)) (pe_slice sl_list (pe_op op_cat (pv 8) (pv 7)) po_none (po_some pe_int)) (pv 4))))))))))
      (pss_one (ps_ret (pv 3))))), rd_law_chain T vs H Q E h⟩
end
end CP

namespace CP
open PySem L2
section
variable {P : Program} {w : World} {K : PySem.W.Frag} {mg : Str → Option Value} {base : Heap}
def sp_law_times (_ : Txt K mg) : Sp := fun vs H Q _ => match vs with
  | [.ref a, .ref d] => ∃ l kvs f, H a = some (.lst (strL l)) ∧ H d = some (.dK kvs) ∧ (∀ k ∈ l, valV kvs (Sum.inr k) = some (.int (f k)) ∧ 0 ≤ f k ∧ f k < 2 ^ 400) ∧ (∀ i, i ≤ l.length → prodF f (l.take i) < 2 ^ 400) ∧ Q (.int (prodF f l)) H
  | _ => False
def t_law_times (w : World) (T : Txt K mg) : TS := tSeq (tAsg (tC (.int 1)) (gName 2)) (tSeq (tFor (iList K (tVar 0)) (gName 3) (tAsg (tOp oMul (tVar 2) (tDGet (tVar 1) (tVar 3))) (gName 2))) (tRet (tVar 2)))
theorem len_law_times (T : Txt K mg) : ∀ (vs : List V) (H : Hp) (Q : VK) (E : XK), sp_law_times T vs H Q E → vs.length = (["_law_product", "_law_sizes_here"] : List Str).length := by
  intro vs H Q E h
  unfold sp_law_times at h
  split at h
  all_goals first | rfl | exact h.elim
theorem rd_law_times (T : Txt K mg) (vs : List V) (H : Hp) (Q : VK) (E : XK) (h : sp_law_times T vs H Q E) : t_law_times w T { nx := fun _ H' => Q .non H', rt := Q } (start ["_law_product", "_law_sizes_here", "_law_found", "_law_one"] vs) H := by
  match vs, h with
  | [.ref a, .ref d], h =>
  obtain ⟨l, kvs, f, ha, hd, hf, hz, q⟩ := h
  have sz : sizeLine = 16777216 := rfl
  unfold t_law_times
  walk_at "st"
  repeat walk_at "w"
  refine ⟨a, rfl, ⟨_, .of ha⟩, for_list (K := K) (a := a) (xs := strL l) (fun i σ H' => H' = H ∧ ∃ x3, σ = [some (.ref a), some (.ref d), some (.int (prodF f (l.take i))), x3]) ⟨rfl, _, rfl⟩ (fun _ _ _ _ w => by rw [w.1]; exact .of ha) ?_ ?_⟩
  · rintro i x σ H2 hx ⟨rfl, x3, rfl⟩
    obtain ⟨k, hk, rfl⟩ := strL_get hx
    obtain ⟨g1, g2, g3⟩ := hf k (List.mem_of_getElem? hk)
    have b1 := hz i (by have := (List.getElem?_eq_some_iff.mp hk).1; omega)
    have b0 : 0 ≤ prodF f (l.take i) := prodF_pos fun x hx => (hf x (List.mem_of_mem_take hx)).2.1
    rw [take_succ hk, prodF_app]
    generalize prodF f (l.take i) = w at b0 b1 ⊢
    repeat walk_at "w"
    refine r_dgetS hd g1 ?_
    repeat walk_at "w"
    exact ⟨rfl, _, rfl⟩
  · rintro σ H2 ⟨rfl, x3, rfl⟩
    rw [strL_len, List.take_length]
    repeat walk_at "w"
    exact q

theorem ok_law_times (T : Txt K mg) : FnOk P w K mg base CX0 1 T.a_law_times T.fd_law_times ["_law_product", "_law_sizes_here"] (sp_law_times T) :=
  T.F_law_times.ok sc_law_times (len_law_times T) fun cdv A outer s H vs Q E hr h => ⟨t_law_times w T, (pss_cons (ps_set (i := 2) sc_law_times.nd rfl (Or.inl rfl) pe_int)
      (pss_cons (ps_for PassesOwn.never rfl (pi_list (pv 0)) (pg_name (i := 3) sc_law_times.nd rfl (Or.inl rfl)) (pss_one (ps_set (i := 2) sc_law_times.nd rfl (Or.inl rfl) (pe_op op_mulW (pv 2) (pe_dget (hu_of hr) (pv 1) (pv 3) (fun _ _ => rfl))))))
      (pss_one (ps_ret (pv 2))))), rd_law_times T vs H Q E h⟩
end
end CP

namespace CP
open PySem L2
section
variable {P : Program} {w : World} {K : PySem.W.Frag} {mg : Str → Option Value} {base : Heap}
def sp_law_used (T : Txt K mg) : Sp := fun vs H Q _ => match vs with
  | [.ref p] => ∃ rows, RowsAt H p rows ∧ Rows rows ∧ ∀ p H', H p = none → Same H H' → H' p = some (.lst (strL (sizesM rows))) → Q (.ref p) H'
  | _ => False
def t_law_used (w : World) (T : Txt K mg) : TS := tSeq (tAsg (tLst (tNil)) (gName 1)) (tSeq (tFor (iList K (tVar 0)) (gTup K 3 (gCons (gName 2) (gCons (gName 3) (gCons (gName 4) gNil)))) (tAsg (tOp rCat (tVar 1) (tLc (iList K (tOp rCat (tVar 3) (tVar 4))) (gName 5) (tTest (tOp (rIn K true) (tVar 5) (tVar 1))) (tVar 5) [5])) (gName 1))) (tRet (tCB (rSortT w) (tCons (tCB (rSetT K w) (tCons (tVar 1) (tNil))) (tNil)))))
theorem len_law_used (T : Txt K mg) : ∀ (vs : List V) (H : Hp) (Q : VK) (E : XK), sp_law_used T vs H Q E → vs.length = (["_law_rows"] : List Str).length := by
  intro vs H Q E h
  unfold sp_law_used at h
  split at h
  all_goals first | rfl | exact h.elim
theorem rd_law_used (T : Txt K mg) (vs : List V) (H : Hp) (Q : VK) (E : XK) (h : sp_law_used T vs H Q E) : t_law_used w T { nx := fun _ H' => Q .non H', rt := Q } (start ["_law_rows", "_law_found", "_law_word", "_law_span", "_law_step", "_law_one"] vs) H := by
  match vs, h with
  | [.ref p], h =>
  obtain ⟨rows, ⟨vs, hp, pr⟩, hR, q⟩ := h
  have sz : sizeLine = 16777216 := rfl
  have few := hR.few
  have vl := pd_len pr
  unfold t_law_used
  walk_at "st"
  repeat walk_at "w"
  rename_i f0 H1 f00 s1 hf0
  have hp1 := CP.Same.to s1 hp
  have p1 := sides_mono pr s1
  refine ⟨p, rfl, ⟨_, .of hp1⟩, for_list (K := K) (a := p) (xs := vs) (fun i σ H' => Same H1 H' ∧ (∃ f l, H' f = some (.lst (strL l)) ∧ l.length ≤ 60 * i ∧ (∀ x, x ∈ l ↔ x ∈ (rows.take i).flatMap fun r => r.2.1 ++ r.2.2) ∧ σ[1]? = some (some (.ref f))) ∧ ∃ x1 x2 x3 x4 x5, σ = [some (.ref p), x1, x2, x3, x4, x5]) ⟨Same.refl _, ⟨f0, [], hf0, by simp, by simp, rfl⟩, _, _, _, _, _, rfl⟩ (fun _ _ _ _ w => .of (CP.Same.to w.1 hp1)) ?_ ?_⟩
  · rintro i x σ H2 hx ⟨s2, ⟨f, l, hf, hl, hm, hσ⟩, x1, x2, x3, x4, x5, rfl⟩
    obtain ⟨rfl⟩ : x1 = some (.ref f) := Option.some.inj hσ
    obtain ⟨r, t, a, b, hr, hm2, rfl, ht, ha, hb⟩ := side_at p1 s2 hx
    have la := (hR.size r hm2).2
    have lb := (hR.step r hm2).2
    have hi : i < rows.length := (List.getElem?_eq_some_iff.mp hr).1
    repeat walk_at "w"
    refine r_cat ha hb (by rw [strL_len, strL_len]; omega) fun c H3 c0 s3 hc => ?_
    rw [← strL_app] at hc
    have hf3 := CP.Same.to s3 hf
    refine ⟨c, rfl, ⟨_, .of hc⟩, fun D hD => lc_strF (fun y => !decide (y ∈ l)) hD (.of hc) (by rw [List.length_append]; omega) (fun k y H4 hy s4 N no yes => ?_) fun H4 s4 hacc => ?_⟩
    · repeat walk_at "w"
      refine ⟨rfl, ?_⟩
      repeat walk_at "w"
      refine r_niStr (.of (CP.Same.to s4 hf3)) ?_
      repeat walk_at "w"
      dsimp only at no yes
      cases e : decide (y ∈ l) with
      | true => rw [e] at no; exact if_nf (no _ rfl (Same.refl _))
      | false =>
        rw [e] at yes
        refine if_nt ?_
        repeat walk_at "w"
        exact yes _ _ _ rfl (Same.refl _) rfl
    have hf4 := CP.Same.to s4 hf3
    refine r_cat hf4 hacc (by rw [strL_len, strL_len]; have := List.length_filter_le (fun y => !decide (y ∈ l)) (r.2.1 ++ r.2.2); rw [List.length_append] at this; omega) fun e H5 e0 s5 he => ?_
    rw [← strL_app] at he
    repeat walk_at "w"
    refine ⟨((s2.trans s3).trans s4).trans s5, ⟨e, _, he, ?_, fun y => ?_, rfl⟩, _, _, _, _, _, rfl⟩
    · have := List.length_filter_le (fun y => !decide (y ∈ l)) (r.2.1 ++ r.2.2)
      rw [List.length_append] at this ⊢
      omega
    · rw [take_succ hr, List.flatMap_append, List.mem_append, List.mem_append, ← hm, List.mem_filter]
      simp only [List.flatMap_cons, List.flatMap_nil, List.append_nil]
      by_cases k : y ∈ l
      · simp [k]
      · simp [k]
  · rintro σ H2 ⟨s2, ⟨f, l, hf, hl, hm, hσ⟩, x1, x2, x3, x4, x5, rfl⟩
    obtain ⟨rfl⟩ : x1 = some (.ref f) := Option.some.inj hσ
    rw [vl, List.take_length] at hm
    repeat walk_at "w"
    refine r_sortSetT (.of hf) (by omega) fun ys p3 H3 h1 h2 h3 s3 h4 h5 => ?_
    have e : ys = sizesM rows := sset_of h1 h2 fun x => (h3 x).trans (hm x)
    rw [e] at h5
    exact q p3 H3 ((s1.trans s2).free h4) ((s1.trans s2).trans s3) h5

theorem ok_law_used (T : Txt K mg) : FnOk P w K mg base CX0 1 T.a_law_used T.fd_law_used ["_law_rows"] (sp_law_used T) :=
  T.F_law_used.ok sc_law_used (len_law_used T) fun cdv A outer s H vs Q E hr h => ⟨t_law_used w T, (pss_cons (ps_set (i := 1) sc_law_used.nd rfl (Or.inr rfl) (pe_lst pa_nil))
      (pss_cons (ps_for PassesOwn.never rfl (pi_list (pv 0)) (pg_tup rfl (pgs_cons (pg_name (i := 2) sc_law_used.nd rfl (Or.inl rfl)) (pgs_cons (pg_name (i := 3) sc_law_used.nd rfl (Or.inl rfl)) (pgs_cons (pg_name (i := 4) sc_law_used.nd rfl (Or.inl rfl)) pgs_nil)))) (pss_one (ps_set (i := 1) sc_law_used.nd rfl (Or.inr rfl) (pe_op op_cat (pv 1) (pe_lc (own := [("_law_one", 5)]) (g := (gName 5)) (tt := tTest (tOp (rIn K true) (tVar 5) (tVar 1))) (te := tVar 5) rfl sc_law_used.nd (pi_list (pe_op op_cat (pv 3) (pv 4))) (blkOk_by (own := [("_law_one", 5)]) (N := ["_law_rows", "_law_found", "_law_word", "_law_span", "_law_step", "_law_one"]) (sc := defScope s_law_used) (by decide +kernel)) (fun _ _ _ _ _ => (pg_name (i := 5) sc_law_used.nd rfl (Or.inl rfl))) (fun _ _ _ _ _ => (pts_one (pt_cmpR op_notIn_seq (pv 5) (pv 1) (by rfl)))) (fun _ _ _ _ _ => (pv 5)))))))
      (pss_one (ps_ret (pe_callB (cr_sortT rfl) (by rfl) T.n_sorted (by decide +kernel) (pa_cons (pe_callTy (cr_setT rfl) (by rfl) T.n_set (by decide +kernel) (pa_cons (pv 1) pa_nil)) pa_nil)))))), rd_law_used T vs H Q E h⟩
end
end CP

namespace CP
open PySem L2
section
variable {P : Program} {w : World} {K : PySem.W.Frag} {mg : Str → Option Value} {base : Heap}
def sp_law_sizes (T : Txt K mg) : Sp := fun vs H Q _ => match vs with
  | [.ref p, .ref r, .int m] => ∃ x y z rows, Purse H p x y z ∧ z < 2 ^ 56 ∧ RowsAt H r rows ∧ Rows rows ∧ 1 ≤ m ∧ m ≤ 1000 ∧ ∀ d kv H' x' z', (kv.map (·.1)).Nodup → (∀ k, k ∈ kv.map (·.1) ↔ k ∈ sizesM rows) → (∀ u ∈ kv, 1 ≤ u.2 ∧ u.2 ≤ m) → H d = none → SB p H H' → H' d = some (.dK (dV kv)) → Purse H' p x' y z' → z' ≤ z + 200000 → Q (.ref d) H'
  | _ => False
def t_law_sizes (w : World) (T : Txt K mg) : TS := tSeq (tAsg (tDNewK) (gName 3)) (tSeq (tFor (iList K (tCall (sp_law_shuffled T) [] E0 (tCons (tVar 0) (tCons (tCall (sp_law_used T) [] E0 (tCons (tVar 1) (tNil))) (tNil))))) (gName 4) (sDPut (tVar 3) (tVar 4) (tOp oAdd (tC (.int 1)) (tCall (sp_law_draw T) [] E0 (tCons (tVar 0) (tCons (tVar 2) (tNil))))))) (tRet (tVar 3)))
theorem len_law_sizes (T : Txt K mg) : ∀ (vs : List V) (H : Hp) (Q : VK) (E : XK), sp_law_sizes T vs H Q E → vs.length = (["_law_purse_here", "_law_rows", "_law_most"] : List Str).length := by
  intro vs H Q E h
  unfold sp_law_sizes at h
  split at h
  all_goals first | rfl | exact h.elim
theorem rd_law_sizes (T : Txt K mg) (vs : List V) (H : Hp) (Q : VK) (E : XK) (h : sp_law_sizes T vs H Q E) : t_law_sizes w T { nx := fun _ H' => Q .non H', rt := Q } (start ["_law_purse_here", "_law_rows", "_law_most", "_law_found", "_law_one"] vs) H := by
  match vs, h with
  | [.ref p, .ref r, .int m], h =>
  obtain ⟨x, y, z, rows, hp, hz, hr, hR, m0, m1, q⟩ := h
  have sz : sizeLine = 16777216 := rfl
  have sl := sizes_len hR
  unfold t_law_sizes
  walk_at "st"
  repeat walk_at "w"
  rename_i d H1 d0 s1 hd
  have pd : p ≠ d := ne_of_none hp.1 d0
  have hp1 := hp.mono s1
  refine ⟨rows, hr.mono s1, hR, fun u H2 u0 s2 hu => ?_⟩
  have hp2 := hp1.mono s2
  repeat walk_at "w"
  refine ⟨x, y, z, _, hp2, by omega, hu, (ne_of_none hp1.1 u0).symm, by rw [strL_len]; omega, fun f ys H3 x3 z3 pm f0 b3 hf hp3 hz3 => ?_⟩
  obtain ⟨l, rfl, pl⟩ := strs_of_perm pm
  rw [strL_len] at hz3
  have ll := pl.length_eq
  have fp : f ≠ p := (ne_of_none hp2.1 f0).symm
  have fd : f ≠ d := (ne_of_none (CP.Same.to s2 hd) f0).symm
  have ln : l.Nodup := (pl.nodup_iff).mpr (sizes_nd rows)
  have B3 : SB p H H3 := SB.trans' (Same.sb' (s1.trans s2)) b3
  refine ⟨f, rfl, ⟨_, .of hf⟩, for_list (K := K) (a := f) (xs := strL l) (fun i σ H' => SB p H H' ∧ SB2 p d H3 H' ∧ (∃ x' z' kv, Purse H' p x' y z' ∧ z' ≤ z + 60 * 1200 + 60 * i ∧ H' d = some (.dK (dV kv)) ∧ kv.map (·.1) = l.take i ∧ (∀ u ∈ kv, 1 ≤ u.2 ∧ u.2 ≤ m)) ∧ ∃ x4, σ = [some (.ref p), some (.ref r), some (.int m), some (.ref d), x4]) ⟨B3, SB2.refl, ⟨x3, z3, [], hp3, by omega, b3 _ _ pd.symm (CP.Same.to s2 hd), rfl, by simp⟩, _, rfl⟩ (fun _ _ _ _ w => .of (w.2.1 _ _ fp fd hf)) ?_ ?_⟩
  · rintro i v σ H4 hx ⟨b4, t4, ⟨x4, z4, kv, hp4, hz4, hk, en, hv⟩, y4, rfl⟩
    obtain ⟨w, hw, rfl⟩ := strL_get hx
    have il : i < l.length := (List.getElem?_eq_some_iff.mp hw).1
    have kn : (kv.map (·.1)).Nodup := by rw [en]; exact ln.sublist (List.take_sublist ..)
    have wn : w ∉ kv.map (·.1) := by
      rw [en]
      intro hm
      have := ln
      rw [← List.take_append_drop (i + 1) l, take_succ hw] at this
      exact (List.nodup_append.mp (List.nodup_append.mp this).1).2.2 w hm w (List.mem_singleton.mpr rfl) rfl
    have kl : kv.length = i := by
      have := congrArg List.length en
      rw [List.length_map, List.length_take] at this
      omega
    repeat walk_at "w"
    refine ⟨x4, y, z4, hp4, by omega, by omega, by omega, fun e H5 x5 z5 e0 e1 b5 hp5 hz5 => ?_⟩
    have hk5 := b5 _ _ pd.symm hk
    repeat walk_at "w"
    refine r_dputS hk5 (by unfold dV; rw [List.length_map]; omega) fun H6 b6 h6 => ?_
    rw [dV_put _ _ _ kn, setD_new wn] at h6
    refine ⟨SB.fresh (SB.trans' b4 b5) d0 b6, (t4.p b5).q b6, ⟨x5, z5, _, hp5.sb b6 pd, by omega, h6, by rw [List.map_append, en, take_succ hw]; rfl, fun u hu => ?_⟩, _, rfl⟩
    rcases List.mem_append.mp hu with z | z
    · exact hv u z
    · rw [List.mem_singleton.mp z]
      exact ⟨by show 1 ≤ 1 + e; omega, by show 1 + e ≤ m; omega⟩
  · rintro σ H4 ⟨b4, t4, ⟨x4, z4, kv, hp4, hz4, hk, en, hv⟩, y4, rfl⟩
    rw [strL_len, List.take_length] at en
    rw [strL_len] at hz4
    repeat walk_at "w"
    exact q d kv H4 x4 z4 (by rw [en]; exact ln) (fun k => by rw [en]; exact pl.mem_iff) hv d0 b4 hk hp4 (by omega)

theorem ok_law_sizes (T : Txt K mg) : FnOk P w K mg base CX0 4 T.a_law_sizes T.fd_law_sizes ["_law_purse_here", "_law_rows", "_law_most"] (sp_law_sizes T) :=
  T.F_law_sizes.ok sc_law_sizes (len_law_sizes T) fun cdv A outer s H vs Q E hr h => ⟨t_law_sizes w T, (pss_cons (ps_set (i := 3) sc_law_sizes.nd rfl (Or.inl rfl) pe_dnewK)
      (pss_cons (ps_for PassesOwn.never rfl (pi_list (pe_call (ok_law_shuffled T) (hr.mono (by decide)) (by rfl) T.m__law_shuffled T.F_law_shuffled.kp (b_law_shuffled T) .nil pass0 (pa_cons (pv 0) (pa_cons (pe_call (ok_law_used T) (hr.mono (by decide)) (by rfl) T.m__law_used T.F_law_used.kp (b_law_used T) .nil pass0 (pa_cons (pv 1) pa_nil)) pa_nil)))) (pg_name (i := 4) sc_law_sizes.nd rfl (Or.inl rfl)) (pss_one (ps_dput (hu_of hr) (pv 3) (pv 4) (pe_op op_add pe_int (pe_call (ok_law_draw T) (hr.mono (by decide)) (by rfl) T.m__law_draw T.F_law_draw.kp (b_law_draw T) .nil pass0 (pa_cons (pv 0) (pa_cons (pv 2) pa_nil)))) rfl)))
      (pss_one (ps_ret (pv 3))))), rd_law_sizes T vs H Q E h⟩
end
end CP

namespace CP
open PySem L2
section
variable {P : Program} {w : World} {K : PySem.W.Frag} {mg : Str → Option Value} {base : Heap}
def sp_law_spot (T : Txt K mg) : Sp := fun vs H Q _ => match vs with
  | [.ref p, .ref d, .ref c] => ∃ rows kv cell, RowsAt H p rows ∧ rows.length ≤ 20 ∧ (∀ r ∈ rows, r.2.2.length ≤ 30) ∧ H d = some (.dK (dV kv)) ∧ Small kv (rows.flatMap fun r => r.2.2) ∧ H c = some (.lst (intL cell)) ∧ cell.length = rows.length ∧ (∀ n ∈ cell, -(2 ^ 200) < n ∧ n < 2 ^ 200) ∧ ∀ H', Same H H' → Q (.int (spotL (atD kv) rows cell)) H'
  | _ => False
def t_law_spot (w : World) (T : Txt K mg) : TS := tRet (tCB (rSum K) (tCons (tLc (iRng1 (tCons (tCB (rLenA K) (tCons (tVar 0) (tNil))) (tNil))) (gName 3) (tYes) (tOp oMul (tOp (rIxL K) (tVar 2) (tVar 3)) (tCall (sp_law_times T) [] E0 (tCons (tOp (rIxT K) (tOp (rIxL K) (tVar 0) (tVar 3)) (tC (.int 2))) (tCons (tVar 1) (tNil))))) [3]) (tNil)))
theorem len_law_spot (T : Txt K mg) : ∀ (vs : List V) (H : Hp) (Q : VK) (E : XK), sp_law_spot T vs H Q E → vs.length = (["_law_rows", "_law_sizes_here", "_law_cell_here"] : List Str).length := by
  intro vs H Q E h
  unfold sp_law_spot at h
  split at h
  all_goals first | rfl | exact h.elim
theorem rd_law_spot (T : Txt K mg) (vs : List V) (H : Hp) (Q : VK) (E : XK) (h : sp_law_spot T vs H Q E) : t_law_spot w T { nx := fun _ H' => Q .non H', rt := Q } (start ["_law_rows", "_law_sizes_here", "_law_cell_here", "_law_at"] vs) H := by
  match vs, h with
  | [.ref p, .ref d, .ref c], h =>
  obtain ⟨rows, kv, cell, ⟨vs, hp, pr⟩, few, st, hd, hk, hc, cl, cb, q⟩ := h
  have sz : sizeLine = 16777216 := rfl
  have vl := pd_len pr
  unfold t_law_spot
  walk_at "st"
  repeat walk_at "w"
  have yl : ((rows.zip cell).map fun p => V.int (p.2 * prodF (atD kv) p.1.2.2)).length = vs.length := by rw [List.length_map, List.length_zip, cl, vl]; omega
  refine fun D hD => lc_valsR ((rows.zip cell).map fun p => V.int (p.2 * prodF (atD kv) p.1.2.2)) hD (by rw [yl]; omega) (by rw [yl]; omega) (fun i y H4 hi hy s4 N no yes => ?_) fun H4 s4 hN => ?_
  · have hir : i < rows.length := by omega
    have hic : i < cell.length := by omega
    obtain ⟨t, ht, tr⟩ := pd_get' pr (List.getElem?_eq_getElem hir)
    obtain ⟨u, a, b, rfl, h1, h2, h3⟩ := tr.mono s4
    have rm : rows[i] ∈ rows := List.getElem_mem hir
    have ey : y = V.int (cell[i] * prodF (atD kv) rows[i].2.2) := by
      have hz : i < (rows.zip cell).length := by rw [List.length_zip]; omega
      rw [List.getElem?_map, List.getElem?_eq_getElem hz, List.getElem_zip] at hy
      exact (Option.some.inj hy).symm
    have cm := cb _ (List.getElem_mem hic)
    have hc4 := CP.Same.to s4 hc
    have hp4 := CP.Same.to s4 hp
    have hd4 := CP.Same.to s4 hd
    have hcg : (intL cell)[i]? = some (.int cell[i]) := by unfold intL; rw [List.getElem?_map, List.getElem?_eq_getElem hic]; rfl
    generalize rows[i] = r at *
    obtain ⟨u1, u2, u3, u4, u5⟩ := Small.low (hk.sub fun k hk => List.mem_flatMap.mpr ⟨r, rm, hk⟩) (st r rm)
    subst ey
    generalize cell[i] = n at *
    rw [Int.zero_add]
    repeat walk_at "w"
    refine ⟨rfl, r_yes (if_t ?_)⟩
    repeat walk_at "w"
    refine r_ixL (.of hc4) (atI_nat hcg) ?_
    repeat walk_at "w"
    refine r_ixL (.of hp4) (atI_nat ht) ?_
    repeat walk_at "w"
    refine r_ixT (i := 2) (.of h1) (v := .ref b) (by rfl) ?_
    repeat walk_at "w"
    refine ⟨_, _, atD kv, h3, hd4, u1, u2, ?_⟩
    repeat walk_at "w"
    exact yes _ _ _ rfl (Same.refl _) rfl
  refine r_sum (ns := (rows.zip cell).map fun p => p.2 * prodF (atD kv) p.1.2.2) (.of ?_) ?_
  · rw [List.map_map]
    exact hN
  exact q _ s4

theorem ok_law_spot (T : Txt K mg) : FnOk P w K mg base CX0 2 T.a_law_spot T.fd_law_spot ["_law_rows", "_law_sizes_here", "_law_cell_here"] (sp_law_spot T) :=
  T.F_law_spot.ok sc_law_spot (len_law_spot T) fun cdv A outer s H vs Q E hr h => ⟨t_law_spot w T, (pss_one (ps_ret (pe_callB (cr_sum rfl) (by rfl) T.n_sum (by decide +kernel) (pa_cons (pe_lc (own := [("_law_at", 3)]) (g := (gName 3)) (tt := tYes) (te := tOp oMul (tOp (rIxL K) (tVar 2) (tVar 3)) (tCall (sp_law_times T) [] E0 (tCons (tOp (rIxT K) (tOp (rIxL K) (tVar 0) (tVar 3)) (tC (.int 2))) (tCons (tVar 1) (tNil))))) rfl sc_law_spot.nd (pi_range1 (by rfl) T.n_range (pa_cons (pe_callB call_lenA (by rfl) T.n_len (by decide +kernel) (pa_cons (pv 0) pa_nil)) pa_nil)) (blkOk_by (own := [("_law_at", 3)]) (N := ["_law_rows", "_law_sizes_here", "_law_cell_here", "_law_at"]) (sc := defScope s_law_spot) (by decide +kernel)) (fun _ _ _ _ _ => (pg_name (i := 3) sc_law_spot.nd rfl (Or.inl rfl))) (fun _ _ _ _ _ => pts_nil) (fun _ _ _ _ _ => (pe_op op_mulW (pe_ix ix_list (pv 2) (pv 3) (fun _ _ => rfl)) (pe_call (ok_law_times T) (hr.mono (by decide)) (by rfl) T.m__law_times T.F_law_times.kp (b_law_times T) .nil pass0 (pa_cons (pe_ix ix_tup (pe_ix ix_list (pv 0) (pv 3) (fun _ _ => rfl)) pe_int (fun _ _ => rfl)) (pa_cons (pv 1) pa_nil)))))) pa_nil)))), rd_law_spot T vs H Q E h⟩
end
end CP

namespace CP
open PySem L2
section
variable {P : Program} {w : World} {K : PySem.W.Frag} {mg : Str → Option Value} {base : Heap}
def sp_law_fits (_ : Txt K mg) : Sp := fun vs H Q _ => match vs with
  | [.ref a, .ref b] => ∃ l o, H a = some (.lst (strL l)) ∧ H b = some (.lst (strL o)) ∧ l.length ≤ 1000 ∧ (∀ w ∈ l, letB w = true) ∧ ∀ r H', (r = true ↔ ∀ w, l.count w ≤ o.count w) → Same H H' → Q (.bl r) H'
  | _ => False
def t_law_fits (w : World) (T : Txt K mg) : TS := tRet (tOp (rEqX K) (tLc (iList K (tVar 0)) (gName 2) (tTest (tOp oGt (tBM K "list" (rCntS K) (tVar 0) (tCons (tVar 2) (tNil))) (tBM K "list" (rCntS K) (tVar 1) (tCons (tVar 2) (tNil))))) (tVar 2) [2]) (tLst (tNil)))
theorem len_law_fits (T : Txt K mg) : ∀ (vs : List V) (H : Hp) (Q : VK) (E : XK), sp_law_fits T vs H Q E → vs.length = (["_law_first", "_law_second"] : List Str).length := by
  intro vs H Q E h
  unfold sp_law_fits at h
  split at h
  all_goals first | rfl | exact h.elim
theorem rd_law_fits (T : Txt K mg) (vs : List V) (H : Hp) (Q : VK) (E : XK) (h : sp_law_fits T vs H Q E) : t_law_fits w T { nx := fun _ H' => Q .non H', rt := Q } (start ["_law_first", "_law_second", "_law_one"] vs) H := by
  match vs, h with
  | [.ref a, .ref b], h =>
  obtain ⟨l, o, ha, hb, ll, lw, q⟩ := h
  have sz : sizeLine = 16777216 := rfl
  unfold t_law_fits
  walk_at "st"
  repeat walk_at "w"
  refine ⟨a, rfl, ⟨_, .of ha⟩, fun D hD => lc_strF (fun w => decide (o.count w < l.count w)) hD (.of ha) (by omega) (fun k y H4 hy s4 N no yes => ?_) fun H4 s4 hacc => ?_⟩
  · have ha4 := CP.Same.to s4 ha
    have hb4 := CP.Same.to s4 hb
    repeat walk_at "w"
    refine ⟨rfl, ?_⟩
    repeat walk_at "w"
    refine ⟨.inl ⟨rfl, _, .of ha4⟩, ?_⟩
    repeat walk_at "w"
    refine r_cntS (.of ha4) ?_
    repeat walk_at "w"
    refine ⟨.inl ⟨rfl, _, .of hb4⟩, ?_⟩
    repeat walk_at "w"
    refine r_cntS (.of hb4) ?_
    repeat walk_at "w"
    dsimp only at no yes
    refine if_d (fun c => ?_) fun c => ?_
    · rw [decide_eq_true (by omega)] at yes
      repeat walk_at "w"
      exact yes _ _ _ rfl (Same.refl _) rfl
    · rw [decide_eq_false (by omega)] at no
      exact no _ rfl (Same.refl _)
  repeat walk_at "w"
  rename_i M H5 M0 s5 hM
  have fl : ∀ w ∈ l.filter (fun w => decide (o.count w < l.count w)), (PyData.str w).canLay0 = true := fun w hw => let_lay (lw w (List.mem_filter.mp hw).1)
  refine nil_eqX (.of (CP.Same.to s5 hacc)) (.of hM) (strs_dp fl) ?_
  refine q _ H5 ⟨fun e w => ?_, fun c => ?_⟩ (s4.trans s5)
  · have e2 : l.filter (fun w => decide (o.count w < l.count w)) = [] := by
      cases h : l.filter (fun w => decide (o.count w < l.count w)) with
      | nil => rfl
      | cons a b => rw [h] at e; cases e
    refine Nat.le_of_not_lt fun lt => ?_
    have wm : w ∈ l := List.count_pos_iff.mp (by omega)
    have := List.filter_eq_nil_iff.mp e2 w wm
    exact this (decide_eq_true lt)
  · have e2 : l.filter (fun w => decide (o.count w < l.count w)) = [] := List.filter_eq_nil_iff.mpr fun w _ z => by
      have := of_decide_eq_true z
      have := c w
      omega
    rw [e2]
    rfl

theorem ok_law_fits (T : Txt K mg) : FnOk P w K mg base CX0 1 T.a_law_fits T.fd_law_fits ["_law_first", "_law_second"] (sp_law_fits T) :=
  T.F_law_fits.ok sc_law_fits (len_law_fits T) fun cdv A outer s H vs Q E hr h => ⟨t_law_fits w T, (pss_one (ps_ret (pe_cmpR (op_eqX hr.units) (pe_lc (own := [("_law_one", 2)]) (g := (gName 2)) (tt := tTest (tOp oGt (tBM K "list" (rCntS K) (tVar 0) (tCons (tVar 2) (tNil))) (tBM K "list" (rCntS K) (tVar 1) (tCons (tVar 2) (tNil))))) (te := tVar 2) rfl sc_law_fits.nd (pi_list (pv 0)) (blkOk_by (own := [("_law_one", 2)]) (N := ["_law_first", "_law_second", "_law_one"]) (sc := defScope s_law_fits) (by decide +kernel)) (fun _ _ _ _ _ => (pg_name (i := 2) sc_law_fits.nd rfl (Or.inl rfl))) (fun _ _ _ _ _ => (pts_one (pt_cmpR op_gt (pe_bm PySem.F.plainAttrs_list PySem.F.slot_list_count PySem.F.type_list_count mt_cntS (pv 0) (pa_cons (pv 2) pa_nil)) (pe_bm PySem.F.plainAttrs_list PySem.F.slot_list_count PySem.F.type_list_count mt_cntS (pv 1) (pa_cons (pv 2) pa_nil)) (nomark _)))) (fun _ _ _ _ _ => (pv 2))) (pe_lst pa_nil) (nomark _)))), rd_law_fits T vs H Q E h⟩
end
end CP

namespace CP
open PySem L2
section
variable {P : Program} {w : World} {K : PySem.W.Frag} {mg : Str → Option Value} {base : Heap}
def sp_law_chained (_ : Txt K mg) : Sp := fun vs H Q _ => match vs with
  | [.ref p] => ∃ rows, RowsAt H p rows ∧ Rows rows ∧ ∀ b H', (b = true ↔ (rows.filter fun r => decide (r.2.1 ≠ [])).Pairwise Comp) → Same H H' → Q (.bl b) H'
  | _ => False
def t_law_chained (w : World) (T : Txt K mg) : TS := tSeq (tAsg (tLc (iList K (tVar 0)) (gName 2) (tTest (tOp (rNeX K) (tOp (rIxT K) (tVar 2) (tC (.int 1))) (tLst (tNil)))) (tVar 2) [2]) (gName 1)) (tSeq (tFor (iEnum K (tCons (tVar 1) (tNil))) (gTup K 2 (gCons (gName 3) (gCons (gName 4) gNil))) (tFor (iList K (tSl (rSlL K) (tVar 1) (tPart (tOp oAdd (tVar 3) (tC (.int 1)))) tNoPart)) (gName 5) (tIfS (tAnd (tNot (tB (tCall (sp_law_fits T) [] E0 (tCons (tOp rCat (tOp (rIxT K) (tVar 4) (tC (.int 1))) (tOp (rIxT K) (tVar 4) (tC (.int 2)))) (tCons (tOp (rIxT K) (tVar 5) (tC (.int 2))) (tNil)))))) (tNot (tB (tCall (sp_law_fits T) [] E0 (tCons (tOp rCat (tOp (rIxT K) (tVar 5) (tC (.int 1))) (tOp (rIxT K) (tVar 5) (tC (.int 2)))) (tCons (tOp (rIxT K) (tVar 4) (tC (.int 2))) (tNil))))))) (tRet (tC (.bl false))) (tNext)))) (tRet (tC (.bl true))))
theorem len_law_chained (T : Txt K mg) : ∀ (vs : List V) (H : Hp) (Q : VK) (E : XK), sp_law_chained T vs H Q E → vs.length = (["_law_rows"] : List Str).length := by
  intro vs H Q E h
  unfold sp_law_chained at h
  split at h
  all_goals first | rfl | exact h.elim
theorem rd_law_chained (T : Txt K mg) (vs : List V) (H : Hp) (Q : VK) (E : XK) (h : sp_law_chained T vs H Q E) : t_law_chained w T { nx := fun _ H' => Q .non H', rt := Q } (start ["_law_rows", "_law_some", "_law_row", "_law_at", "_law_one", "_law_other"] vs) H := by
  match vs, h with
  | [.ref p], h =>
  obtain ⟨rows, ⟨vs, hp, pr⟩, hR, q⟩ := h
  have sz : sizeLine = 16777216 := rfl
  have few := hR.few
  have vl := pd_len pr
  unfold t_law_chained
  walk_at "st"
  repeat walk_at "w"
  refine ⟨p, rfl, ⟨_, .of hp⟩, fun D hD => lc_sdF (fun r => decide (r.2.1 ≠ [])) pr hD (.of hp) (by omega) (fun k x r H4 N hx hr sr s4 no yes => ?_) fun H4 acc s4 hacc pacc => ?_⟩
  · obtain ⟨t, a, b, rfl, h1, h2, h3⟩ := sr
    have rm := List.mem_of_getElem? hr
    repeat walk_at "w"
    refine ⟨rfl, ?_⟩
    repeat walk_at "w"
    refine r_ixT (.of h1) (v := .ref a) (by rfl) ?_
    repeat walk_at "w"
    rename_i L H5 L0 s5 hL
    by_cases nf : r.2.1 = []
    · refine nil_neX0 (.of (by have := CP.Same.to s5 h2; rw [nf] at this; exact this)) (.of hL) ?_
      repeat walk_at "w"
      exact no _ (decide_eq_false fun z => z nf) s5
    · refine nil_neX (.of (CP.Same.to s5 h2)) (.of hL) (strs_dp (hR.size r rm).lay) ?_
      rw [show (strL r.2.1).isEmpty = false by
        cases h : r.2.1 with
        | nil => exact absurd h nf
        | cons _ _ => rfl]
      repeat walk_at "w"
      exact yes _ (decide_eq_true nf) s5
  have fm : ∀ r ∈ rows.filter (fun r => decide (r.2.1 ≠ [])), r ∈ rows := fun r hr => (List.mem_filter.mp hr).1
  have fl := List.length_filter_le (fun r : Sd => decide (r.2.1 ≠ [])) rows
  generalize rows.filter (fun r => decide (r.2.1 ≠ [])) = fs at *
  have al := pd_len pacc
  repeat walk_at "w"
  refine ⟨D, acc, rfl, .of hacc, for_enum (K := K) (a := D) (xs := acc) (fun i σ H' => Same H4 H' ∧ (∀ a b r s, a < i → a < b → fs[a]? = some r → fs[b]? = some s → Comp r s) ∧ ∃ x2 x3 x4 x5, σ = [some (.ref p), some (.ref D), x2, x3, x4, x5]) ⟨Same.refl _, fun _ _ _ _ z => absurd z (Nat.not_lt_zero _), _, _, _, _, rfl⟩ (fun _ _ _ _ w => .of (CP.Same.to w.1 hacc)) ?_ ?_⟩
  · rintro i x σ H5 tt H6 hx ⟨s5, ci, x2, x3, x4, x5, rfl⟩ s6 htt
    obtain ⟨r, t, a, b, hr, hm, rfl, ht, ha, hb⟩ := side_at pacc (s5.trans s6) hx
    have lr := hR.size r (fm r hm)
    have lr2 := hR.step r (fm r hm)
    repeat walk_at "w"
    rename_i g H7 g0 s7 hg
    rw [show cutV acc (some ((i : Int) + 1)) none = acc.drop (i + 1) from cut_tail acc (i + 1)] at hg
    have S7 := (s5.trans s6).trans s7
    refine ⟨g, rfl, ⟨_, .of hg⟩, for_list (K := K) (a := g) (xs := acc.drop (i + 1)) (fun j σ H' => Same H7 H' ∧ (∀ c, c < j → ∀ s, fs[i + 1 + c]? = some s → Comp r s) ∧ ∃ x5, σ = [some (.ref p), some (.ref D), x2, some (.int (i : Nat)), some (.ref t), x5]) ⟨Same.refl _, fun _ z => absurd z (Nat.not_lt_zero _), _, rfl⟩ (fun _ _ _ _ w => .of (CP.Same.to w.1 hg)) ?_ ?_⟩
    · rintro j x σ H8 hx ⟨s8, cj, x5, rfl⟩
      rw [List.getElem?_drop] at hx
      obtain ⟨s, t2, a2, b2, hs, hm2, rfl, ht2, ha2, hb2⟩ := side_at pacc (S7.trans s8) hx
      have ls := hR.size s (fm s hm2)
      have ls2 := hR.step s (fm s hm2)
      have s78 := s7.trans s8
      have nx : Comp r s → ∀ c, c < j + 1 → ∀ u, fs[i + 1 + c]? = some u → Comp r u := fun k c hc u hu => by
        by_cases e : c = j
        · subst e
          rw [hs] at hu
          cases hu
          exact k
        · exact cj c (by omega) u hu
      have l1 := lr.2
      have l2 := lr2.2
      have l3 := ls.2
      have l4 := ls2.2
      repeat walk_at "w"
      refine r_ixT (.of (CP.Same.to s78 ht)) (v := .ref a) (by rfl) ?_
      repeat walk_at "w"
      refine r_ixT (.of (CP.Same.to s78 ht)) (v := .ref b) (by rfl) ?_
      refine r_cat (CP.Same.to s78 ha) (CP.Same.to s78 hb) (by rw [strL_len, strL_len]; omega) fun c H9 c0 s9 hc => ?_
      rw [← strL_app] at hc
      repeat walk_at "w"
      refine r_ixT (.of (CP.Same.to s9 ht2)) (v := .ref b2) (by rfl) ?_
      repeat walk_at "w"
      refine ⟨_, _, hc, CP.Same.to s9 hb2, by rw [List.length_append]; omega, fun w hw => (List.mem_append.mp hw).elim (lr.1 w) (lr2.1 w), fun b1 H10 h1 s10 => ?_⟩
      repeat walk_at "w"
      cases b1 with
      | true =>
        repeat walk_at "w"
        exact ⟨(s8.trans s9).trans s10, nx (.inl (h1.mp rfl)), _, rfl⟩
      | false =>
        have s89 := s9.trans s10
        repeat walk_at "w"
        refine r_ixT (.of (CP.Same.to s89 ht2)) (v := .ref a2) (by rfl) ?_
        repeat walk_at "w"
        refine r_ixT (.of (CP.Same.to s89 ht2)) (v := .ref b2) (by rfl) ?_
        refine r_cat (CP.Same.to s89 ha2) (CP.Same.to s89 hb2) (by rw [strL_len, strL_len]; omega) fun e H11 e0 s11 he => ?_
        rw [← strL_app] at he
        repeat walk_at "w"
        refine r_ixT (.of (CP.Same.to s11 (CP.Same.to s89 (CP.Same.to s78 ht)))) (v := .ref b) (by rfl) ?_
        repeat walk_at "w"
        refine ⟨_, _, he, CP.Same.to s11 (CP.Same.to s89 (CP.Same.to s78 hb)), by rw [List.length_append]; omega, fun w hw => (List.mem_append.mp hw).elim (ls.1 w) (ls2.1 w), fun b2 H12 h2 s12 => ?_⟩
        repeat walk_at "w"
        have S12 := ((s8.trans s89).trans s11).trans s12
        cases b2 with
        | true =>
          repeat walk_at "w"
          exact ⟨S12, nx (.inr (h2.mp rfl)), _, rfl⟩
        | false =>
          repeat walk_at "w"
          refine q false H12 ⟨fun z => absurd z (by decide), fun pw => ?_⟩ ((s4.trans S7).trans S12)
          have hi := (List.getElem?_eq_some_iff.mp hr)
          have hj := (List.getElem?_eq_some_iff.mp hs)
          obtain ⟨hi, rfl⟩ := hi
          obtain ⟨hj, rfl⟩ := hj
          rcases List.pairwise_iff_getElem.mp pw i (i + 1 + j) hi hj (by omega) with z | z
          · exact absurd (h1.mpr z) (by decide)
          · exact absurd (h2.mpr z) (by decide)
    · rintro σ H8 ⟨s8, cj, x5, rfl⟩
      have dl : (acc.drop (i + 1)).length = fs.length - (i + 1) := by rw [List.length_drop, al]
      rw [dl] at cj
      refine ⟨S7.trans s8, fun a b u v h1 h2 hu hv => ?_, _, _, _, _, rfl⟩
      by_cases e : a = i
      · subst e
        rw [hr] at hu
        cases hu
        have hb := (List.getElem?_eq_some_iff.mp hv).1
        refine cj (b - (a + 1)) (by omega) v ?_
        rw [show a + 1 + (b - (a + 1)) = b by omega]
        exact hv
      · exact ci a b u v (by omega) h2 hu hv
  · rintro σ H5 ⟨s5, ci, x2, x3, x4, x5, rfl⟩
    repeat walk_at "w"
    refine q true H5 ⟨fun _ => ?_, fun _ => rfl⟩ (s4.trans s5)
    rw [List.pairwise_iff_getElem]
    intro i j hi hj lt
    exact ci i j _ _ (by omega) lt (List.getElem?_eq_getElem hi) (List.getElem?_eq_getElem hj)

theorem ok_law_chained (T : Txt K mg) : FnOk P w K mg base CX0 2 T.a_law_chained T.fd_law_chained ["_law_rows"] (sp_law_chained T) :=
  T.F_law_chained.ok sc_law_chained (len_law_chained T) fun cdv A outer s H vs Q E hr h => ⟨t_law_chained w T, (pss_cons (ps_setLc (i := 1) (own := [("_law_row", 2)]) (g := (gName 2)) (tt := tTest (tOp (rNeX K) (tOp (rIxT K) (tVar 2) (tC (.int 1))) (tLst (tNil)))) (te := tVar 2) rfl sc_law_chained.nd rfl rfl (sw_true rfl rfl rfl (by decide +kernel)) (pi_list (pv 0)) (blkOk_by (own := [("_law_row", 2)]) (N := ["_law_rows", "_law_some", "_law_row", "_law_at", "_law_one", "_law_other"]) (sc := defScope s_law_chained) (by decide +kernel)) (fun _ _ _ _ _ => (pg_name (i := 2) sc_law_chained.nd rfl (Or.inl rfl))) (fun _ _ _ _ _ => (pts_one (pt_cmpR (op_neX hr.units) (pe_ix ix_tup (pv 2) pe_int (fun _ _ => rfl)) (pe_lst pa_nil) (nomark _)))) (fun _ _ _ _ _ => (pv 2)))
      (pss_cons (ps_for PassesOwn.never rfl (pi_enum (by rfl) T.n_enumerate (pa_cons (pv 1) pa_nil)) (pg_tup rfl (pgs_cons (pg_name (i := 3) sc_law_chained.nd rfl (Or.inl rfl)) (pgs_cons (pg_name (i := 4) sc_law_chained.nd rfl (Or.inl rfl)) pgs_nil))) (pss_one (ps_for PassesOwn.never rfl (pi_list (pe_slice sl_list (pv 1) (po_some (pe_op op_add (pv 3) pe_int)) po_none)) (pg_name (i := 5) sc_law_chained.nd rfl (Or.inl rfl)) (pss_one (ps_if (PW.pt (pw_and (pt_not (pt_val (pe_call (ok_law_fits T) (hr.mono (by decide)) (by rfl) T.m__law_fits T.F_law_fits.kp (b_law_fits T) .nil pass0 (pa_cons (pe_op op_cat (pe_ix ix_tup (pv 4) pe_int (fun _ _ => rfl)) (pe_ix ix_tup (pv 4) pe_int (fun _ _ => rfl))) (pa_cons (pe_ix ix_tup (pv 5) pe_int (fun _ _ => rfl)) pa_nil))))) (pw_and1 (pt_not (pt_val (pe_call (ok_law_fits T) (hr.mono (by decide)) (by rfl) T.m__law_fits T.F_law_fits.kp (b_law_fits T) .nil pass0 (pa_cons (pe_op op_cat (pe_ix ix_tup (pv 5) pe_int (fun _ _ => rfl)) (pe_ix ix_tup (pv 5) pe_int (fun _ _ => rfl))) (pa_cons (pe_ix ix_tup (pv 4) pe_int (fun _ _ => rfl)) pa_nil)))))))) (pss_one (ps_ret pe_bl)) pss_nil)))))
      (pss_one (ps_ret pe_bl)))), rd_law_chained T vs H Q E h⟩
end
end CP

namespace CP
open PySem L2 LamX
section
variable {P : Program} {w : World} {K : PySem.W.Frag} {mg : Str → Option Value} {base : Heap}
def lamTab (P : Addr) : List (Addr × Str) := [(P, "_law_cell.<locals>.<lambda>")]
theorem side_ext {H H' : Hp} (e : LamX.ExtN H H') {v : V} {r : Sd} (h : SideAt H v r) : SideAt H' v r := by
  obtain ⟨t, a, b, rfl, h1, h2, h3⟩ := h
  exact ⟨t, a, b, rfl, e _ _ h1 (fun _ z => by cases z), e _ _ h2 (fun _ z => by cases z), e _ _ h3 (fun _ z => by cases z)⟩
theorem tabs_sb {L : List (Addr × Str)} {d : Addr} {o : HO} {H H' : Hp} (t : LamX.Tabs L H) (hd : H d = some o) (n1 : ∀ ps, o ≠ .tbl ps) (n2 : ∀ φ, o ≠ .ext φ) (s : SB d H H') : LamX.Tabs L H' := fun p hp => by
  obtain ⟨ps, h1, h2, h3⟩ := t p hp
  refine ⟨ps, s _ _ (fun z => ?_) h1, h2, fun pos cv hc => ?_⟩
  · rw [z, hd] at h1
    exact n1 ps (Option.some.inj h1)
  · obtain ⟨c, e1, e2⟩ := h3 pos cv hc
    refine ⟨c, e1, s _ _ (fun z => ?_) e2⟩
    rw [z, hd] at e2
    exact n2 _ (Option.some.inj e2)
theorem ixn_nat {n j : Nat} (hj : j < n) : ixN n (j : Int) = some j := by
  unfold ixN
  first
  | (rw [if_pos (by omega)]; simp; omega)
  | (simp; omega)
theorem keys_perm {xs : List V} {ks : List Int} (h : ks.length = xs.length) : (LamP.byKeys xs ks).Perm xs := by
  unfold LamP.byKeys
  have e : (xs.zip ks).map (·.1) = xs := List.map_fst_zip (by omega)
  have p := ((List.mergeSort_perm (xs.zip ks) fun u v => decide (u.2 ≤ v.2)).map (·.1))
  rw [e] at p
  exact p
theorem keys_rows {rows : List Sd} {g : Sd → Int} : ∃ P : List (Sd × Nat), LamP.byKeys (rgV 0 rows.length) (rows.map g) = P.map (fun q => V.int (q.2 : Nat)) ∧ P.Perm rows.zipIdx ∧ P.Pairwise fun a b => g a.1 ≤ g b.1 := by
  have e : (rgV 0 rows.length).zip (rows.map g) = rows.zipIdx.map fun q => (V.int (q.2 : Nat), g q.1) := by
    refine List.ext_getElem ?_ fun i h1 h2 => ?_
    · simp [rgV]
    · simp [rgV]
  have p := List.mergeSort_perm ((rgV 0 rows.length).zip (rows.map g)) fun u v => decide (u.2 ≤ v.2)
  have s := List.pairwise_mergeSort (le := fun (u v : V × Int) => decide (u.2 ≤ v.2)) (fun a b c h1 h2 => decide_eq_true (Int.le_trans (of_decide_eq_true h1) (of_decide_eq_true h2))) (fun a b => by
    rcases Int.le_total a.2 b.2 with h | h
    · simp [h]
    · simp [h]) ((rgV 0 rows.length).zip (rows.map g))
  unfold LamP.byKeys
  rw [e] at p s ⊢
  obtain ⟨P, q, ep⟩ := perm_map_liftH p rfl
  rw [← ep] at s ⊢
  refine ⟨P, by rw [List.map_map]; rfl, q, (List.pairwise_map.mp s).imp fun k => of_decide_eq_true k⟩
def InvC (H7 : Hp) (p d D : Addr) (rows : List Sd) (f : Str → Int) (n : Int) (P : List (Sd × Nat)) (i : Nat) (σ : L2.St) (H' : Hp) : Prop := SB D H7 H' ∧ (H' D = some (.lst ((rows.map fun r => (tl f (((P.take i).map (·.1)).filter full1) (fun _ => 0, n)).1 r.1).map V.int)) ∧ 0 ≤ (tl f (((P.take i).map (·.1)).filter full1) (fun _ => 0, n)).2 ∧ (tl f (((P.take i).map (·.1)).filter full1) (fun _ => 0, n)).2 ≤ n ∧ σ[2]? = some (some (.int (tl f (((P.take i).map (·.1)).filter full1) (fun _ => 0, n)).2))) ∧ ∃ x2 x5 x6, σ = [some (.ref p), some (.ref d), x2, some (.ref D), none, x5, x6]
def sp_law_cell (T : Txt K mg) : Sp := fun vs H Q _ => match vs with
  | [.ref p, .ref d, .int n] => ∃ rows kv, RowsAt H p rows ∧ Rows rows ∧ H d = some (.dK (dV kv)) ∧ Small kv (ltrs rows) ∧ 0 ≤ n ∧ n < 2 ^ 399 ∧ LamX.Tabs (lamTab T.tP) H ∧ ∀ v H', LamX.ExtN H H' → LamX.Tabs (lamTab T.tP) H' → LawCell rows (atD kv) n v H' → Q v H'
  | _ => False
def t_law_cell (w : World) (T : Txt K mg) : TS := tSeq (tAsg (tLc (iList K (tVar 0)) (gName 4) (tYes) (tC (.int 0)) [4]) (gName 3)) (tSeq (tFor (iList K ((LamP.tSortLamR K [(T.tP, "_law_cell.<locals>.<lambda>")] ["_law_rows", "_law_sizes_here", "_law_spot_here", "_law_found", "_law_row", "_law_at", "_law_step"] "_law_at" (tCB (rLenA K) (tCons (tVar 0) (tNil))) (tOp oSub (tC (.int 0)) (tCall (sp_law_times T) [] E0 (tCons (tOp (rIxT K) (tOp (rIxL K) (tVar 0) (tVar 7)) (tC (.int 2))) (tCons (tVar 1) (tNil)))))))) (gName 5) (tIfS (tTest (tOp (rNeX K) (tOp (rIxT K) (tOp (rIxL K) (tVar 0) (tVar 5)) (tC (.int 1))) (tLst (tNil)))) (tSeq (tAsg (tCall (sp_law_times T) [] E0 (tCons (tOp (rIxT K) (tOp (rIxL K) (tVar 0) (tVar 5)) (tC (.int 2))) (tCons (tVar 1) (tNil)))) (gName 6)) (tSeq (tAsg (tCB oMin2 (tCons (tOp oDiv (tVar 2) (tVar 6)) (tCons (tOp oSub (tCall (sp_law_times T) [] E0 (tCons (tOp (rIxT K) (tOp (rIxL K) (tVar 0) (tVar 5)) (tC (.int 1))) (tCons (tVar 1) (tNil)))) (tC (.int 1))) (tNil)))) (gSub (tVar 3) (tVar 5) rSetL)) (tAsg (tOp oSub (tVar 2) (tOp oMul (tVar 6) (tOp (rIxL K) (tVar 3) (tVar 5)))) (gName 2)))) (tNext))) (tRet (tIf (tTest (tOp rEq (tVar 2) (tC (.int 0)))) (tVar 3) (tC .non))))
theorem len_law_cell (T : Txt K mg) : ∀ (vs : List V) (H : Hp) (Q : VK) (E : XK), sp_law_cell T vs H Q E → vs.length = (["_law_rows", "_law_sizes_here", "_law_spot_here"] : List Str).length := by
  intro vs H Q E h
  unfold sp_law_cell at h
  split at h
  all_goals first | rfl | exact h.elim
theorem rd_law_cell (T : Txt K mg) (vs : List V) (H : Hp) (Q : VK) (E : XK) (h : sp_law_cell T vs H Q E) : t_law_cell w T { nx := fun _ H' => Q .non H', rt := Q } (start ["_law_rows", "_law_sizes_here", "_law_spot_here", "_law_found", "_law_row", "_law_at", "_law_step"] vs) H := by
  match vs, h with
  | [.ref p, .ref d, .int n], h =>
  obtain ⟨rows, kv, hP, hR, hd, sml, n0, n1, hT, q⟩ := h
  have sz : sizeLine = 16777216 := rfl
  have few := hR.few
  obtain ⟨vs, hp, pr⟩ := hP
  have vl := pd_len pr
  unfold t_law_cell
  walk_at "st"
  repeat walk_at "w"
  refine ⟨p, rfl, ⟨_, .of hp⟩, fun D hD => lc_valsL (rows.map fun _ => V.int 0) hD (.of hp) (by rw [List.length_map, vl]) (by rw [List.length_map]; omega) (fun i x y H4 hx hy s4 N no yes => ?_) fun H4 s4 hN => ?_⟩
  · rw [List.getElem?_map] at hy
    obtain ⟨r, hr, rfl⟩ := Option.map_eq_some_iff.mp hy
    repeat walk_at "w"
    refine ⟨rfl, r_yes (if_t ?_)⟩
    repeat walk_at "w"
    exact yes _ _ _ rfl (Same.refl _) rfl
  repeat walk_at "w"
  unfold LamP.tSortLamR
  repeat walk_at "w"
  rw [vl]
  have low : ∀ r ∈ rows, _ := fun r hr => Small.low (sml.sub fun k hk => ltrs_step hr k hk) (hR.step r hr).2
  have low2 : ∀ r ∈ rows, _ := fun r hr => Small.low (sml.sub fun k hk => ltrs_size hr k hk) (hR.size r hr).2
  have hd4 := CP.Same.to s4 hd
  have hp4 := CP.Same.to s4 hp
  have pr4 := pd_mono pr fun _ _ w => SideAt.mono w s4
  refine ⟨⟨by omega, by omega⟩, hT.ext s4, fun H5 e5 T5 => ⟨rows.map fun r => 0 - prodF (atD kv) r.2.2, by rw [rgV_length, List.length_map]; omega, fun i x k H6 hx hk kp => ?_, fun g H6 kp g0 => ?_⟩⟩
  · have hx' : x = .int (i : Nat) ∧ i < rows.length := by
      unfold rgV at hx
      rw [List.getElem?_map] at hx
      obtain ⟨j, hj, rfl⟩ := Option.map_eq_some_iff.mp hx
      obtain ⟨l, e⟩ := List.getElem?_eq_some_iff.mp hj
      rw [List.length_range] at l
      rw [List.getElem_range] at e
      subst e
      exact ⟨by congr 1; omega, by omega⟩
    obtain ⟨rfl, hi⟩ := hx'
    obtain ⟨t0, ht0, tr⟩ := pd_get' pr4 (List.getElem?_eq_getElem hi)
    have rm : rows[i] ∈ rows := List.getElem_mem hi
    rw [List.getElem?_map, List.getElem?_eq_getElem hi] at hk
    generalize rows[i] = r at *
    obtain ⟨t, a, b, rfl, h1, h2, h3⟩ := tr
    have ek : 0 - prodF (atD kv) r.2.2 = k := Option.some.inj hk
    obtain ⟨u1, u2, u3, u4, u5⟩ := low r rm
    have ht6 := kp _ _ (e5 _ _ h1 (fun _ z => by cases z))
    have hb6 := kp _ _ (e5 _ _ h3 (fun _ z => by cases z))
    have hd6 := kp _ _ (e5 _ _ hd4 (fun _ z => by cases z))
    have hp6 := kp _ _ (e5 _ _ hp4 (fun _ z => by cases z))
    change tOp oSub _ _ [some (V.ref p), some (V.ref d), some (V.int n), some (V.ref D), none, none, none, some (V.int (i : Nat))] H6 _
    repeat walk_at "w"
    refine r_ixL (.of hp6) (atI_nat ht0) ?_
    repeat walk_at "w"
    refine r_ixT (i := 2) (.of ht6) (v := .ref b) (by rfl) ?_
    repeat walk_at "w"
    refine ⟨_, _, atD kv, hb6, hd6, u1, u2, ?_⟩
    repeat walk_at "w"
    exact ⟨by rw [ek], fun _ _ z => z⟩
  obtain ⟨P, eP, pP, wP⟩ := keys_rows (rows := rows) (g := fun r => 0 - prodF (atD kv) r.2.2)
  rw [eP]
  have hN6 := kp _ _ (e5 _ _ hN (fun _ z => by cases z))
  have gD : D ≠ g := fun z => by rw [z, g0] at hN6; cases hN6
  have sg : Same H6 (upd H6 g (.lst (P.map fun q => V.int (q.2 : Nat)))) := same_new g0
  have hg : (upd H6 g (.lst (P.map fun q => V.int (q.2 : Nat)))) g = some (.lst (P.map fun q => V.int (q.2 : Nat))) := upd_same
  generalize upd H6 g (.lst (P.map fun q => V.int (q.2 : Nat))) = H7 at sg hg ⊢
  have E47 : LamX.ExtN H4 H7 := e5.trans ((LamX.ExtN.of kp).trans (LamX.ExtN.of sg))
  have T7 : LamX.Tabs (lamTab T.tP) H7 := (LamX.Tabs.ext T5 kp).ext sg
  have pr7 := pd_mono pr4 fun _ _ w => side_ext E47 w
  have hd7 := E47 _ _ hd4 (fun _ z => by cases z)
  have hp7 := E47 _ _ hp4 (fun _ z => by cases z)
  have hN7 := E47 _ _ hN (fun _ z => by cases z)
  have pl := pP.length_eq
  rw [List.length_zipIdx] at pl
  have inv0 : InvC H7 p d D rows (atD kv) n P 0 [some (.ref p), some (.ref d), some (.int n), some (.ref D), none, none, none] H7 := ⟨fun _ _ _ w => w, ⟨by rw [hN7, List.map_map]; rfl, n0, Int.le_refl _, rfl⟩, _, _, _, rfl⟩
  refine ⟨g, rfl, ⟨_, .of hg⟩, for_list (K := K) (a := g) (xs := P.map fun q => V.int (q.2 : Nat)) (InvC H7 p d D rows (atD kv) n P) inv0 (fun _ _ _ _ w => .of (w.1 _ _ gD.symm hg)) ?_ ?_⟩
  · rintro i x σ H8 hx ⟨b8, ⟨hD8, m0, m1, hσ⟩, x2, x5, x6, rfl⟩
    obtain ⟨rfl⟩ : x2 = some (.int _) := Option.some.inj hσ
    rw [List.getElem?_map] at hx
    obtain ⟨⟨r, j⟩, hq, rfl⟩ := Option.map_eq_some_iff.mp hx
    have hj : rows[j]? = some r := by
      exact List.mem_zipIdx_iff_getElem?.mp (pP.mem_iff.mp (List.mem_of_getElem? hq))
    have rm := List.mem_of_getElem? hj
    have nDp : p ≠ D := fun z => by rw [z, hD] at hp; cases hp
    have sd : ∀ {v : V} {r : Sd}, SideAt H v r → SideAt H8 v r := fun {v r} w => by
      obtain ⟨t, a, b, e, h1, h2, h3⟩ := w
      have k : ∀ {c : Addr} {o : HO}, H c = some o → (∀ ps, o ≠ .tbl ps) → H8 c = some o := fun {c o} h nt => b8 _ _ (fun z => by rw [z, hD] at h; cases h) (E47 _ _ (CP.Same.to s4 h) nt)
      exact ⟨t, a, b, e, k h1 (fun _ z => by cases z), k h2 (fun _ z => by cases z), k h3 (fun _ z => by cases z)⟩
    have hp8 : H8 p = some (.lst vs) := b8 _ _ nDp hp7
    have hd8 : H8 d = some (.dK (dV kv)) := b8 _ _ (fun z => by rw [z, hD] at hd; cases hd) hd7
    obtain ⟨t0, ht0, tr⟩ := pd_get' pr hj
    obtain ⟨t, a, b, rfl, h1, h2, h3⟩ := sd tr
    obtain ⟨u1, u2, u3, u4, u5⟩ := low r rm
    obtain ⟨v1, v2, v3, v4, v5⟩ := low2 r rm
    have et : ((P.take (i + 1)).map (·.1)).filter full1 = ((P.take i).map (·.1)).filter full1 ++ [r].filter full1 := by rw [take_succ hq, List.map_append, List.filter_append]; rfl
    unfold InvC
    rw [et, tl_app]
    generalize tl (atD kv) (((P.take i).map (·.1)).filter full1) (fun _ => 0, n) = A at *
    obtain ⟨G, m⟩ := A
    dsimp only at hD8 m0 m1 ⊢
    repeat walk_at "w"
    refine r_ixL (.of hp8) (atI_nat ht0) ?_
    repeat walk_at "w"
    refine r_ixT (i := 1) (.of h1) (v := .ref a) (by rfl) ?_
    repeat walk_at "w"
    rename_i L H9 L0 s9 hL
    have dL : D ≠ L := fun z => by rw [z, L0] at hD8; cases hD8
    have B9 : SB D H7 H9 := SB.trans' b8 (Same.sb' s9)
    have hD9 := CP.Same.to s9 hD8
    have hp9 := CP.Same.to s9 hp8
    have hd9 := CP.Same.to s9 hd8
    have k1 := CP.Same.to s9 h1
    have k2 := CP.Same.to s9 h2
    have k3 := CP.Same.to s9 h3
    by_cases nf : r.2.1 = []
    · refine nil_neX0 (.of (by have := k2; rw [nf] at this; exact this)) (.of hL) ?_
      rw [show [r].filter full1 = [] by simp [full1, nf]]
      repeat walk_at "w"
      exact ⟨B9, ⟨hD9, m0, m1, rfl⟩, _, _, _, rfl⟩
    · refine nil_neX (.of k2) (.of hL) (strs_dp (hR.size r rm).lay) ?_
      rw [show (strL r.2.1).isEmpty = false by
        cases h : r.2.1 with
        | nil => exact absurd h nf
        | cons _ _ => rfl]
      rw [show [r].filter full1 = [r] by rw [List.filter_cons_of_pos (full_t nf)]; rfl]
      have b399 : (2 : Int) ^ 399 < 2 ^ 400 := by decide +kernel
      have ml : m < 2 ^ 400 := by omega
      have d1 : 0 ≤ m / prodF (atD kv) r.2.2 := Int.ediv_nonneg m0 (by omega)
      have d2 : m / prodF (atD kv) r.2.2 ≤ m := Int.ediv_le_self _ m0
      have d3 : m / prodF (atD kv) r.2.2 * prodF (atD kv) r.2.2 ≤ m := Int.ediv_mul_le _ (by omega)
      repeat walk_at "w"
      refine r_ixL (.of hp9) (atI_nat ht0) ?_
      repeat walk_at "w"
      refine r_ixT (i := 2) (.of k1) (v := .ref b) (by rfl) ?_
      repeat walk_at "w"
      refine ⟨_, _, atD kv, k3, hd9, u1, u2, ?_⟩
      repeat walk_at "w"
      refine r_ixL (.of hp9) (atI_nat ht0) ?_
      repeat walk_at "w"
      refine r_ixT (i := 1) (.of k1) (v := .ref a) (by rfl) ?_
      repeat walk_at "w"
      refine ⟨_, _, atD kv, k2, hd9, v1, v2, ?_⟩
      repeat walk_at "w"
      rw [show (if prodF (atD kv) r.2.1 - 1 < m / prodF (atD kv) r.2.2 then prodF (atD kv) r.2.1 - 1 else m / prodF (atD kv) r.2.2) = min (m / prodF (atD kv) r.2.2) (prodF (atD kv) r.2.1 - 1) by split <;> omega]
      have jl : j < rows.length := (List.getElem?_eq_some_iff.mp hj).1
      refine r_setL (j := j) hD9 (ixn_nat (by rw [List.length_map, List.length_map]; exact jl)) fun H10 b10 hD10 => ?_
      have eset : ((rows.map fun s => G s.1).map V.int).set j (V.int (min (m / prodF (atD kv) r.2.2) (prodF (atD kv) r.2.1 - 1))) = (rows.map fun s => if s.1 = r.1 then min (m / prodF (atD kv) r.2.2) (prodF (atD kv) r.2.1 - 1) else G s.1).map V.int := by
        rw [← List.map_set, set_name hR.dis hj]
      rw [eset] at hD10
      have hat : ((rows.map fun s => if s.1 = r.1 then min (m / prodF (atD kv) r.2.2) (prodF (atD kv) r.2.1 - 1) else G s.1).map V.int)[j]? = some (V.int (min (m / prodF (atD kv) r.2.2) (prodF (atD kv) r.2.1 - 1))) := by
        rw [List.getElem?_map, List.getElem?_map, hj]
        show some (V.int (if r.1 = r.1 then _ else _)) = _
        rw [if_pos rfl]
      have q2 : min (m / prodF (atD kv) r.2.2) (prodF (atD kv) r.2.1 - 1) ≤ m / prodF (atD kv) r.2.2 := Int.min_le_left _ _
      have q4 : 0 ≤ min (m / prodF (atD kv) r.2.2) (prodF (atD kv) r.2.1 - 1) := by omega
      have q5 := Int.mul_le_mul_of_nonneg_right q2 (by omega : 0 ≤ prodF (atD kv) r.2.2)
      have q6 := Int.mul_nonneg q4 (by omega : 0 ≤ prodF (atD kv) r.2.2)
      have et2 : tl (atD kv) [r] (G, m) = (fun w => if w = r.1 then min (m / prodF (atD kv) r.2.2) (prodF (atD kv) r.2.1 - 1) else G w, m - min (m / prodF (atD kv) r.2.2) (prodF (atD kv) r.2.1 - 1) * prodF (atD kv) r.2.2) := rfl
      rw [et2]
      have q7 := Int.mul_comm (prodF (atD kv) r.2.2) (min (m / prodF (atD kv) r.2.2) (prodF (atD kv) r.2.1 - 1))
      generalize min (m / prodF (atD kv) r.2.2) (prodF (atD kv) r.2.1 - 1) = c at *
      repeat walk_at "w"
      refine r_ixL (.of hD10) (atI_nat hat) ?_
      repeat walk_at "w"
      rw [q7]
      exact ⟨SB.trans' B9 b10, ⟨hD10, by omega, by omega, rfl⟩, _, _, _, rfl⟩
  · rintro σ H8 ⟨b8, ⟨hD8, m0, m1, hσ⟩, x2, x5, x6, rfl⟩
    obtain ⟨rfl⟩ : x2 = some (.int _) := Option.some.inj hσ
    rw [List.length_map, List.take_length] at hD8 m0 m1 hσ ⊢
    have perm : ((P.map (·.1)).filter full1).Perm (rows.filter full1) := by
      have := (pP.map (·.1)).filter full1
      rwa [show (rows.zipIdx.map (·.1)) = rows by simp] at this
    have dsc : ((P.map (·.1)).filter full1).Pairwise fun a b => prodF (atD kv) b.2.2 ≤ prodF (atD kv) a.2.2 := List.Pairwise.sublist List.filter_sublist (List.pairwise_map.mpr (wP.imp fun k => by omega))
    have EE : LamX.ExtN H H8 := fun b o h nt => b8 _ _ (fun z => by rw [z, hD] at h; cases h) (E47 _ _ (CP.Same.to s4 h) nt)
    have T8 : LamX.Tabs (lamTab T.tP) H8 := tabs_sb T7 hN7 (fun _ z => by cases z) (fun _ z => by cases z) b8
    repeat walk_at "w"
    refine if_d (fun z => ?_) fun z => ?_
    · repeat walk_at "w"
      exact q _ _ EE T8 ⟨_, perm, dsc, by rw [if_pos z]; exact ⟨_, rfl, hD8⟩⟩
    · repeat walk_at "w"
      exact q _ _ EE T8 ⟨_, perm, dsc, by rw [if_neg z]⟩

theorem ok_law_cell (T : Txt K mg) (TB : TabB base mg T.tc T.tP) : FnOk P w K mg base CX0 10 T.a_law_cell T.fd_law_cell ["_law_rows", "_law_sizes_here", "_law_spot_here"] (sp_law_cell T) :=
  LamP.okC T.F_law_cell T.tcode sc_law_cell (len_law_cell T) fun A outer s H vs Q E hr h => ⟨t_law_cell w T, (pss_cons (ps_setLc (i := 3) (own := [("_law_row", 4)]) (g := (gName 4)) (tt := tYes) (te := tC (.int 0)) rfl sc_law_cell.nd rfl rfl (sw_true rfl rfl rfl (by decide +kernel)) (pi_list (pv 0)) (blkOk_by (own := [("_law_row", 4)]) (N := ["_law_rows", "_law_sizes_here", "_law_spot_here", "_law_found", "_law_row", "_law_at", "_law_step"]) (sc := defScope s_law_cell) (by decide +kernel)) (fun _ _ _ _ _ => (pg_name (i := 4) sc_law_cell.nd rfl (Or.inl rfl))) (fun _ _ _ _ _ => pts_nil) (fun _ _ _ _ _ => pe_int))
      (pss_cons (ps_for PassesOwn.never rfl (pi_list (LamP.pe_sortLamR  (T := [(T.tP, "_law_cell.<locals>.<lambda>")]) (P := T.tP) (k := 4) (p := "_law_at") (tb := tOp oSub (tC (.int 0)) (tCall (sp_law_times T) [] E0 (tCons (tOp (rIxT K) (tOp (rIxL K) (tVar 0) (tVar 7)) (tC (.int 2))) (tCons (tVar 1) (tNil))))) (by rfl) T.n_sorted (by rfl) T.n_range rfl (pe_callB call_lenA (by rfl) T.n_len (by decide +kernel) (pa_cons (pv 0) pa_nil)) (by rfl) TB rfl (List.mem_singleton.mpr rfl) (fun z hz _ => by rw [List.mem_singleton.mp hz]; rfl) (hr.mono (by decide)) (LamP.lamQ_by (by first | rfl | decide +kernel)) (by rfl) (fun _ _ _ _ _ _ => by rfl) (fun _ _ _ _ _ _ hr => (pe_op op_sub pe_int (pe_call (ok_law_times T) (hr.mono (by decide)) (by rfl) T.m__law_times T.F_law_times.kp (b_law_times T) .nil pass0 (pa_cons (pe_ix ix_tup (pe_ix ix_list (pv 0) (pv 7) (fun _ _ => rfl)) pe_int (fun _ _ => rfl)) (pa_cons (pv 1) pa_nil))))))) (pg_name (i := 5) sc_law_cell.nd rfl (Or.inl rfl)) (pss_one (ps_if (pt_cmpR (op_neX hr.units) (pe_ix ix_tup (pe_ix ix_list (pv 0) (pv 5) (fun _ _ => rfl)) pe_int (fun _ _ => rfl)) (pe_lst pa_nil) (nomark _)) (pss_cons (ps_set (i := 6) sc_law_cell.nd rfl (Or.inl rfl) (pe_call (ok_law_times T) (hr.mono (by decide)) (by rfl) T.m__law_times T.F_law_times.kp (b_law_times T) .nil pass0 (pa_cons (pe_ix ix_tup (pe_ix ix_list (pv 0) (pv 5) (fun _ _ => rfl)) pe_int (fun _ _ => rfl)) (pa_cons (pv 1) pa_nil))))
      (pss_cons (ps_asg (pe_callB (call_minA rfl) (by rfl) T.n_min (by decide +kernel) (pa_cons (pe_op op_fdivW (pv 2) (pv 6)) (pa_cons (pe_op op_sub (pe_call (ok_law_times T) (hr.mono (by decide)) (by rfl) T.m__law_times T.F_law_times.kp (b_law_times T) .nil pass0 (pa_cons (pe_ix ix_tup (pe_ix ix_list (pv 0) (pv 5) (fun _ _ => rfl)) pe_int (fun _ _ => rfl)) (pa_cons (pv 1) pa_nil))) pe_int) pa_nil))) (pg_sub (pv 3) (pv 5) set_list))
      (pss_one (ps_set (i := 2) sc_law_cell.nd rfl (Or.inl rfl) (pe_op op_sub (pv 2) (pe_op op_mulW (pv 6) (pe_ix ix_list (pv 3) (pv 5) (fun _ _ => rfl)))))))) pss_nil)))
      (pss_one (ps_ret (pe_ifExp (pt_cmpR op_eq (pv 2) pe_int (nomark _)) (pv 3) pe_non))))), rd_law_cell T vs H Q E h⟩
end
end CP

namespace CP
open PySem L2
section
variable {P : Program} {w : World} {K : PySem.W.Frag} {mg : Str → Option Value} {base : Heap}
theorem plain_new (T : Txt K mg) {H : Hp} {r : Addr} {rows : List Sd} {Q : Addr → Hp → Prop} {E : XK} (hp : RowsAt H r rows) (hR : Rows rows) (q : ∀ o H', H o = none → Same H H' → TabAt T.a_Plain H' o (rows.map srow) → Q o H') :
    ∀ x dx, H x = none → H dx = none → dx ≠ x → sp_Plain___init T (.ref x :: ([.ref r] ++ [])) (upd (upd H dx (.own x)) x (.ins T.a_Plain dx [])) (fun v H2 => v = .non ∧ Q x H2) E := by
  intro o2 dx2 o20 dx20 ne20
  have s7 : Same H (upd (upd H dx2 (.own o2)) o2 (.ins T.a_Plain dx2 [])) := fun b u hb => by rw [upd_ne (ne_of_none hb o20), upd_ne (ne_of_none hb dx20)]; exact hb
  have ho2 : (upd (upd H dx2 (.own o2)) o2 (.ins T.a_Plain dx2 [])) o2 = some (.ins T.a_Plain dx2 []) := upd_same
  generalize upd (upd H dx2 (.own o2)) o2 (.ins T.a_Plain dx2 []) = H7 at s7 ho2 ⊢
  exact ⟨dx2, r, rows, rfl, ho2, hp.mono s7, hR, fun H8 b8 hT8 => ⟨rfl, q o2 H8 o20 (CP.Same.sb s7 o20 b8) hT8⟩⟩
/-- all is kept but p and the tables -/
def Kr (p : Addr) (H H' : Hp) : Prop := ∀ b o, b ≠ p → H b = some o → (∀ ps, o ≠ .tbl ps) → H' b = some o
theorem Kr.trans {p : Addr} {H H1 H2 : Hp} (a : Kr p H H1) (b : Kr p H1 H2) : Kr p H H2 := fun c o n h t => b c o n (a c o n h t) t
theorem Kr.sb {p : Addr} {H H' : Hp} (s : SB p H H') : Kr p H H' := fun b o n h _ => s b o n h
theorem Kr.of {p : Addr} {H H' : Hp} (s : Same H H') : Kr p H H' := fun b o _ h _ => s b o h
theorem Kr.ext {p : Addr} {H H' : Hp} (s : LamX.ExtN H H') : Kr p H H' := fun b o _ h t => s b o h t
theorem Kr.side {p : Addr} {H H' : Hp} {x y z : Int} (hp : H p = some (.lst [.int x, .int y, .int z])) (k : Kr p H H') {v : V} {r : Sd} (h : SideAt H v r) : SideAt H' v r := by
  obtain ⟨t, a, b, e, h1, h2, h3⟩ := h
  exact ⟨t, a, b, e, k _ _ (fun z => by rw [z, hp] at h1; cases h1) h1 (fun _ z => by cases z), k _ _ (purse_txt hp h2) h2 (fun _ z => by cases z), k _ _ (purse_txt hp h3) h3 (fun _ z => by cases z)⟩
theorem Kr.rows {p : Addr} {H H' : Hp} {x y z : Int} (hp : H p = some (.lst [.int x, .int y, .int z])) (k : Kr p H H') {q : Addr} {rows : List Sd} (h : RowsAt H q rows) : RowsAt H' q rows := by
  have ne := rows_ne hp h
  obtain ⟨vs, hv, pr⟩ := h
  exact ⟨vs, k _ _ ne hv (fun _ z => by cases z), pd_mono pr fun _ _ w => k.side hp w⟩
theorem Kr.tab {p : Addr} {H H' : Hp} {x y z : Int} (hp : H p = some (.lst [.int x, .int y, .int z])) (k : Kr p H H') {C o : Addr} {rows : List Sd} (h : TabAt C H o rows) : TabAt C H' o rows := by
  obtain ⟨dx, q, h1, h2⟩ := h
  exact ⟨dx, q, k _ _ (fun z => by rw [z, hp] at h1; cases h1) h1 (fun _ z => by cases z), k.rows hp h2⟩
theorem Kr.dk {p : Addr} {H H' : Hp} {x y z : Int} (hp : H p = some (.lst [.int x, .int y, .int z])) (k : Kr p H H') {d : Addr} {kv : List (Key × V)} (h : H d = some (.dK kv)) : H' d = some (.dK kv) := k _ _ (fun z => by rw [z, hp] at h; cases h) h (fun _ z => by cases z)
theorem tabs_p {L : List (Addr × Str)} {p : Addr} {H H' : Hp} {x y z : Int} (t : LamX.Tabs L H) (hp : H p = some (.lst [.int x, .int y, .int z])) (s : SB p H H') : LamX.Tabs L H' := tabs_sb t hp (fun _ z => by cases z) (fun _ z => by cases z) s
def DrawP (p D : Addr) (y z : Int) (f : Str → Int) (rows : List Sd) (H : Hp) (i : Nat) (H' : Hp) : Prop := SB p H H' ∧ (∃ x' z', Purse H' p x' y z' ∧ z' ≤ z + 60 * i) ∧ ∃ c : List Int, H' D = some (.lst (intL c)) ∧ c.length = i ∧ ∀ (j : Nat) (r : Sd) (k : Int), rows[j]? = some r → c[j]? = some k → 0 ≤ k ∧ k < prodF f r.2.1
def sp_law_right (T : Txt K mg) : Sp := fun vs H Q _ => match vs with
  | [.ref p, .ref o, .ref r, .ref d] => ∃ x y z rows fs kv, Purse H p x y z ∧ z < 2 ^ 57 ∧ TabAt T.a_Plain H o (rows.map srow) ∧ RowsAt H r rows ∧ Rows rows ∧ rows.length ≤ 6 ∧ (∀ r ∈ rows, r.2.1.length ≤ 3 ∧ r.2.2.length ≤ 6) ∧ orderM (rows.map srow) = .inl fs ∧ H d = some (.dK (dV kv)) ∧ KvOk kv rows ∧ LamX.Tabs (lamTab T.tP) H ∧ ∀ H' x' z', Kr p H H' → LamX.Tabs (lamTab T.tP) H' → Purse H' p x' y z' → z' ≤ z + 600 → Q (.bl true) H'
  | _ => False
def t_law_right (w : World) (T : Txt K mg) : TS := tSeq (tPar 4 5 (tCons (tCB (rReprA K) (tCons (tVar 3) (tNil))) (tCons (tLc (iList K (tVar 2)) (gName 6) (tYes) (tCall (sp_law_draw T) [] E0 (tCons (tVar 0) (tCons (tCall (sp_law_times T) [] E0 (tCons (tOp (rIxT K) (tVar 6) (tC (.int 1))) (tCons (tVar 3) (tNil)))) (tNil)))) [6]) (tNil)))) (tSeq (tAsg (tCall (sp_law_spot T) [] E0 (tCons (tVar 2) (tCons (tVar 3) (tCons (tVar 5) (tNil))))) (gName 7)) (tSeq (tIfS (tTest (tOp (rNeX K) (tCall (sp_cell_of T) [] E0 (tCons (tVar 1) (tCons (tVar 3) (tCons (tVar 7) (tNil))))) (tVar 5))) (tRet (tC (.bl false))) (tNext)) (tSeq (tFor (iList K (tLst (tCons (tC (.int 0)) (tCons (tC (.int 1)) (tCons (tOp oAdd (tVar 7) (tC (.int 1))) (tCons (tCB oMax2 (tCons (tOp oSub (tVar 7) (tC (.int 1))) (tCons (tC (.int 0)) (tNil)))) (tCons (tOp oMul (tVar 7) (tC (.int 2))) (tCons (tCall (sp_law_draw T) [] E0 (tCons (tVar 0) (tCons (tOp oPow (tC (.int 10)) (tC (.int 29))) (tNil)))) (tCons (tOp oAdd (tC (.int 1)) (tCall (sp_law_draw T) [] E0 (tCons (tVar 0) (tCons (tC (.int 50)) (tNil))))) (tNil)))))))))) (gName 8) (tSeq (tAsg (tCall (sp_law_cell T) [] E0 (tCons (tVar 2) (tCons (tVar 3) (tCons (tVar 8) (tNil))))) (gName 9)) (tSeq (tAsg (tCall (sp_cell_of T) [] E0 (tCons (tVar 1) (tCons (tVar 3) (tCons (tVar 8) (tNil))))) (gName 10)) (tSeq (tIfS (tTest (tOp (rNeX K) (tCB (rReprA K) (tCons (tVar 10) (tNil))) (tCB (rReprA K) (tCons (tVar 9) (tNil))))) (tRet (tC (.bl false))) (tNext)) (tIfS (tTest (tOp rNotN (tVar 10) (tC .non))) (tSeq (tDrop (tBM K "list" rAppend (tVar 10) (tCons (tC (.str "spoilt")) (tNil)))) (tIfS (tTest (tOp (rNeX K) (tCall (sp_cell_of T) [] E0 (tCons (tVar 1) (tCons (tVar 3) (tCons (tVar 8) (tNil))))) (tVar 9))) (tRet (tC (.bl false))) (tNext))) (tNext)))))) (tRet (tAndV (tOp (rEqX K) (tCB (rReprA K) (tCons (tVar 3) (tNil))) (tVar 4)) (tOp (rEqO T.a_Plain (sp_Plain___eq T) E0) (tVar 1) (tMake T.a_Plain (sp_Plain___init T) [] E0 (tCons (tVar 2) (tNil)))))))))
theorem len_law_right (T : Txt K mg) : ∀ (vs : List V) (H : Hp) (Q : VK) (E : XK), sp_law_right T vs H Q E → vs.length = (["_law_purse_here", "_law_table", "_law_rows", "_law_sizes_here"] : List Str).length := by
  intro vs H Q E h
  unfold sp_law_right at h
  split at h
  all_goals first | rfl | exact h.elim
theorem rd_law_right (T : Txt K mg) (vs : List V) (H : Hp) (Q : VK) (E : XK) (h : sp_law_right T vs H Q E) : t_law_right w T { nx := fun _ H' => Q .non H', rt := Q } (start ["_law_purse_here", "_law_table", "_law_rows", "_law_sizes_here", "_law_kept_sizes", "_law_drawn", "_law_row", "_law_spot_here", "_law_more", "_law_due", "_law_told"] vs) H := by
  match vs, h with
  | [.ref p, .ref o, .ref r, .ref d], h =>
  obtain ⟨x, y, z, rows, fs, kv, hp, hz, hT, hr, hR, l6, short, e, hd, ok, hTb, q⟩ := h
  have sz : sizeLine = 16777216 := rfl
  have few := hR.few
  have hS := hR.srow
  have hr0 := hr
  obtain ⟨vs, hv, pr⟩ := hr
  have vl := pd_len pr
  have sml := ok.small
  have kl : kv.length < 2000 := by have := ok.few; omega
  have kv9 : ∀ k ∈ sizesM (rows.map srow), (getD kv k).isSome = true ∧ 1 ≤ atD kv k ∧ atD kv k < 2 ^ 10 := fun k hk => by
    rw [sizes_srow] at hk
    exact ok.val k (mem_ltrs.mp hk)
  have lt1 : ∀ u ∈ kv, letB u.1 = true := fun u hu => (ok.each u hu).1
  have rp : r ≠ p := rows_ne hp.1 hr0
  have dp : d ≠ p := fun z => by rw [z, hp.1] at hd; cases hd
  unfold t_law_right
  walk_at "st"
  repeat walk_at "w"
  refine r_reprKvA hd (by have := ok.few; omega) ok.each ?_
  repeat walk_at "w"
  refine ⟨r, rfl, ⟨_, .of hv⟩, fun D hD => lc_list (K := K) (a := r) (xs := vs) (DrawP p D y z (atD kv) rows H) ⟨Same.sb' (same_new hD), ⟨x, z, ⟨by rw [upd_ne (ne_of_none hp.1 hD)]; exact hp.1, hp.2⟩, by omega⟩, [], upd_same, rfl, fun j r k _ h => by simp at h⟩ (fun i H2 _ w => .of (w.1 _ _ rp hv)) (fun i x1 H3 hx w => ?_) fun H3 w => ?_⟩
  · obtain ⟨b3, ⟨x', z', hp3, hz3⟩, c, hc, cl, cb⟩ := w
    obtain ⟨r1, hr1, sd⟩ := pd_get pr hx
    have il : i < rows.length := (List.getElem?_eq_some_iff.mp hr1).1
    obtain ⟨t, a, b, rfl, h1, h2, h3⟩ := (Kr.sb b3).side hp.1 sd
    have hd3 := b3 _ _ dp hd
    have rm := List.mem_of_getElem? hr1
    obtain ⟨u1, u2, u3, u4, u5⟩ := Small.low (sml.sub fun k hk => ltrs_size rm k hk) (show r1.2.1.length ≤ 30 by have := (short r1 rm).1; omega)
    have zb := ok.size rm (short r1 rm).1
    have b200 : (2 : Int) ^ 30 < 2 ^ 200 := by decide +kernel
    repeat walk_at "w"
    refine ⟨rfl, r_yes (if_t ?_)⟩
    repeat walk_at "w"
    refine r_ixT (i := 1) (.of h1) (v := .ref a) (by rfl) ?_
    repeat walk_at "w"
    refine ⟨_, _, atD kv, h2, hd3, u1, u2, ?_⟩
    repeat walk_at "w"
    refine ⟨x', y, z', hp3, by omega, by omega, by omega, fun k H4 x4 z4 k0 k1 b4 hp4 hz4 => ?_⟩
    repeat walk_at "w"
    have dDp : D ≠ p := fun z => by rw [z, hp.1] at hD; cases hD
    have hc4 := b4 _ _ dDp hc
    refine ⟨_, hc4, by rw [intL_len]; omega, fun b o n h => ?_, ⟨x4, z4, ⟨by rw [upd_ne dDp.symm]; exact hp4.1, hp4.2⟩, by push_cast; omega⟩, c ++ [k], by rw [upd_same, intL_app]; rfl, by rw [List.length_append, cl]; rfl, fun j s m hs hm => ?_⟩
    · rw [upd_ne (ne_of_none h hD)]
      exact b4 _ _ n (b3 _ _ n h)
    · by_cases jl : j < c.length
      · rw [List.getElem?_append_left jl] at hm
        exact cb j s m hs hm
      · rw [List.getElem?_append_right (by omega)] at hm
        have j0 : j - c.length = 0 := by
          have := (List.getElem?_eq_some_iff.mp hm).1
          simp at this
          omega
        rw [j0] at hm
        have ji : j = i := by omega
        rw [ji, hr1] at hs
        cases hs
        cases hm
        exact ⟨k0, k1⟩
  · obtain ⟨b3, ⟨x3, z3, hp3, hz3⟩, c, hc, cl, cb⟩ := w
    rw [vl] at cl
    have cell := cell_by (f := atD kv) hR.nd cl cb
    have K3 : Kr p H H3 := Kr.sb b3
    have T3 := tabs_p hTb hp.1 b3
    have hd3 := K3.dk hp.1 hd
    have hr3 := K3.rows hp.1 hr0
    have hT3 := K3.tab hp.1 hT
    have cb2 : ∀ k ∈ c, 0 ≤ k ∧ k ≤ 2 ^ 30 := fun k hk => by
      obtain ⟨j, hj, rfl⟩ := List.getElem_of_mem hk
      have hj2 : j < rows.length := by omega
      have := cb j _ _ (List.getElem?_eq_getElem hj2) (List.getElem?_eq_getElem hj)
      have zb := ok.size (List.getElem_mem hj2) (short _ (List.getElem_mem hj2)).1
      omega
    obtain ⟨sp0, sp1⟩ := spot_low (f := atD kv) (rows := rows) (cell := c) (B := 2 ^ 30) (C := 2 ^ 60) (by decide) (by decide) (fun r hr => by have := ok.step hr (short r hr).2; omega) cb2
    have sp2 : spotL (atD kv) rows c ≤ 2 ^ 93 := by
      refine Int.le_trans sp1 (Int.le_trans (Int.mul_le_mul_of_nonneg_right (show (rows.length : Int) ≤ 6 by omega) (by decide)) (by decide +kernel))
    have fsp := found_spot hR e ok.f1 cell
    clear sp1 hv pr
    repeat walk_at "w"
    refine ⟨rows, kv, c, hr3, few, fun r hr => by have := (short r hr).2; omega, hd3, sml.sub (fun k hk => by obtain ⟨r, hr, h⟩ := List.mem_flatMap.mp hk; exact ltrs_step hr k h), hc, cl, fun k hk => ⟨Int.lt_of_lt_of_le (by decide +kernel) (cb2 k hk).1, Int.lt_of_le_of_lt (cb2 k hk).2 (by decide +kernel)⟩, fun H4 s4 => ?_⟩
    have b93 : (2 : Int) ^ 93 < 2 ^ 98 := by decide +kernel
    have b98 : (2 : Int) ^ 98 < 2 ^ 100 := by decide +kernel
    generalize hsp : spotL (atD kv) rows c = S at *
    repeat walk_at "w"
    refine ⟨_, fs, kv, hT3.mono s4, hS, e, CP.Same.to s4 hd3, lt1, ok.nd, kl, kv9, by omega, by omega, fun v H5 s5 hv5 _ => ?_⟩
    repeat walk_at "w"
    refine cell_ne hv5 (told_cell.mpr (by rw [fsp]; exact ⟨D, rfl, CP.Same.to (s4.trans s5) hc⟩)) ?_
    repeat walk_at "w"
    refine r_I ⟨by decide, by decide, by decide +kernel⟩ ?_
    rw [show ((10 : Int) ^ (29 : Int).toNat) = 100000000000000000000000000000 by decide +kernel]
    repeat walk_at "w"
    have S5 := s4.trans s5
    have lv : (vs.length : Int) ≤ 6 := by omega
    refine ⟨x3, y, z3, ⟨CP.Same.to S5 hp3.1, hp3.2⟩, by omega, by omega, by decide +kernel, fun k1 H6 x6 z6 a6 b6 t6 hp6 hz6 => ?_⟩
    repeat walk_at "w"
    refine ⟨x6, y, z6, hp6, by omega, by omega, by decide +kernel, fun k2 H7 x7 z7 a7 b7 t7 hp7 hz7 => ?_⟩
    repeat walk_at "w"
    rename_i M H8 M0 s8 hM
    have K8 : Kr p H H8 := (((K3.trans (Kr.of S5)).trans (Kr.sb t6)).trans (Kr.sb t7)).trans (Kr.of s8)
    have T8 : LamX.Tabs (lamTab T.tP) H8 := (tabs_p (tabs_p (T3.ext S5) (CP.Same.to S5 hp3.1) t6) hp6.1 t7).ext s8
    have hp8 : Purse H8 p x7 y z7 := ⟨CP.Same.to s8 hp7.1, hp7.2⟩
    have hz8 : z7 ≤ z + 600 := by omega
    clear t6 t7 hp6 hp7 s4 s5 S5 hv5 b3 hp3 hd3 hr3 hT3 K3 T3 hc cell cb cb2 fsp hz6 hz7 hz3
    obtain ⟨ms, em, mb⟩ : ∃ ms : List Int, [V.int 0, V.int 1, V.int (S + 1), V.int (if 0 > S - 1 then 0 else S - 1), V.int (S * 2), V.int k1, V.int (1 + k2)] = ms.map V.int ∧ ∀ m ∈ ms, 0 ≤ m ∧ m < 2 ^ 98 := by
      refine ⟨[0, 1, S + 1, if 0 > S - 1 then 0 else S - 1, S * 2, k1, 1 + k2], rfl, fun m hm => ?_⟩
      have b29 : (100000000000000000000000000000 : Int) < 2 ^ 98 := by decide +kernel
      have b94 : (2 : Int) ^ 93 * 2 + 2 < 2 ^ 98 := by decide +kernel
      simp only [List.mem_cons, List.not_mem_nil, or_false] at hm
      rcases hm with rfl | rfl | rfl | rfl | rfl | rfl | rfl
      · exact ⟨by omega, by omega⟩
      · exact ⟨by omega, by omega⟩
      · exact ⟨by omega, by omega⟩
      · split <;> exact ⟨by omega, by omega⟩
      · exact ⟨by omega, by omega⟩
      · exact ⟨by omega, by omega⟩
      · exact ⟨by omega, by omega⟩
    rw [em] at hM
    have hd8 := K8.dk hp.1 hd
    have hr8 := K8.rows hp.1 hr0
    have hT8 := K8.tab hp.1 hT
    refine ⟨M, rfl, ⟨_, .of hM⟩, for_list (K := K) (a := M) (xs := ms.map V.int) (fun i σ H' => LamX.ExtN H8 H' ∧ LamX.Tabs (lamTab T.tP) H' ∧ ∃ x6 x8 x9 x10, σ = [some (.ref p), some (.ref o), some (.ref r), some (.ref d), some (.str (kvD kv).shown), some (.ref D), x6, some (.int S), x8, x9, x10]) ⟨LamX.ExtN.refl _, T8, _, _, _, _, rfl⟩ (fun _ _ _ _ w => .of (w.1 _ _ hM (fun _ z => by cases z))) ?_ ?_⟩
    · rintro i x σ H9 hx ⟨e9, T9, y6, y8, y9, y10, rfl⟩
      rw [List.getElem?_map] at hx
      obtain ⟨m, hm, rfl⟩ := Option.map_eq_some_iff.mp hx
      obtain ⟨m0, m1⟩ := mb m (List.mem_of_getElem? hm)
      have K9 := K8.trans (Kr.ext e9)
      have hd9 := K9.dk hp.1 hd
      have hr9 := K9.rows hp.1 hr0
      have hT9 := K9.tab hp.1 hT
      repeat walk_at "w"
      have b98 : (2 : Int) ^ 98 < 2 ^ 399 := by decide +kernel
      refine ⟨rows, kv, hr9, hR, hd9, sml, m0, by omega, T9, fun v H10 e10 T10 hl => ?_⟩
      have K10 := K9.trans (Kr.ext e10)
      have hd10 := K10.dk hp.1 hd
      have hr10 := K10.rows hp.1 hr0
      have hT10 := K10.tab hp.1 hT
      have hc10 := hl.cell hR e ok.f1 m0
      obtain ⟨oc, ta, tok⟩ := hl.told few m0 fun r hr => ⟨(ok.step hr (short r hr).2).1, ok.size hr (short r hr).1⟩
      have eo : foundM (rows.map srow) fs (atD kv) m = oc := told_same (told_cell.mp hc10) ta
      clear hl
      repeat walk_at "w"
      refine ⟨_, fs, kv, hT10, hS, e, hd10, lt1, ok.nd, kl, kv9, m0, by omega, fun w H11 s11 hw fr => ?_⟩
      have tw : ToldAt oc w H11 := by rw [← eo]; exact told_cell.mp hw
      have hc11 := hc10.mono s11
      have tv : ToldAt oc v H11 := by rw [← eo]; exact told_cell.mp hc11
      repeat walk_at "w"
      refine r_reprTold tw tok ?_
      repeat walk_at "w"
      refine r_reprTold tv tok ?_
      repeat walk_at "w"
      rw [decide_eq_true rfl]
      repeat walk_at "w"
      cases oc with
      | none =>
        obtain rfl : w = .non := tw
        repeat walk_at "w"
        exact ⟨e9.trans (e10.trans (LamX.ExtN.of s11)), T10.ext s11, _, _, _, _, rfl⟩
      | some c1 =>
        obtain ⟨q1, rfl, hq⟩ := tw
        have fq := fr q1 rfl
        repeat walk_at "w"
        refine ⟨.inl ⟨rfl, _, .of hq⟩, ?_⟩
        repeat walk_at "w"
        refine r_app hq (by rw [List.length_map]; have := (tok c1 rfl).1; omega) fun H12 b12 h12 => ?_
        have E12 : LamX.ExtN H10 H12 := fun b o h nt => b12 _ _ (ne_of_none h fq) (s11 b o h)
        have T12 : LamX.Tabs (lamTab T.tP) H12 := tabs_sb (T10.ext s11) hq (fun _ z => by cases z) (fun _ z => by cases z) b12
        have K12 := K10.trans (Kr.ext E12)
        have hd12 := K12.dk hp.1 hd
        have hT12 := K12.tab hp.1 hT
        have ta12 : ToldAt (some c1) v H12 := by
          obtain ⟨q2, e2, h2⟩ := ta
          exact ⟨q2, e2, E12 _ _ h2 (fun _ z => by cases z)⟩
        repeat walk_at "w"
        refine ⟨_, fs, kv, hT12, hS, e, hd12, lt1, ok.nd, kl, kv9, m0, by omega, fun w2 H13 s13 hw2 _ => ?_⟩
        repeat walk_at "w"
        refine cell_ne hw2 (CellAt.mono (told_cell.mpr (by rw [eo]; exact ta12)) s13) ?_
        repeat walk_at "w"
        exact ⟨e9.trans (e10.trans (E12.trans (LamX.ExtN.of s13))), T12.ext s13, _, _, _, _, rfl⟩
    · rintro σ H9 ⟨e9, T9, y6, y8, y9, y10, rfl⟩
      have K9 := K8.trans (Kr.ext e9)
      have hd9 := K9.dk hp.1 hd
      have hr9 := K9.rows hp.1 hr0
      have hT9 := K9.tab hp.1 hT
      repeat walk_at "w"
      refine r_reprKvA hd9 (by have := ok.few; omega) ok.each ?_
      repeat walk_at "w"
      rw [decide_eq_true rfl]
      repeat walk_at "w"
      refine plain_new T hr9 hR fun o2 H10 o20 s10 hT2 => ?_
      have hT10 := hT9.mono s10
      obtain ⟨dz, pz, hz2, _⟩ := id hT10
      obtain ⟨dw, pw, hw, _⟩ := id hT2
      repeat walk_at "w"
      refine ⟨o, o2, dz, dw, _, _, rfl, rfl, hz2, hw, _, _, hT10, hT2, hS, hS, ?_⟩
      rw [decide_eq_true rfl]
      exact ⟨true, rfl, q _ _ _ (K9.trans (Kr.of s10)) (T9.ext s10) ⟨s10 _ _ (e9 _ _ hp8.1 (fun _ z => by cases z)), hp8.2⟩ hz8⟩

theorem ok_law_right (T : Txt K mg) (TB : LamX.TabB base mg T.tc T.tP) : FnG P w K mg base CX0 11 T.a_law_right T.fd_law_right ["_law_purse_here", "_law_table", "_law_rows", "_law_sizes_here"] (sp_law_right T) :=
  Fun.okG T.F_law_right sc_law_right (len_law_right T) fun cdv A outer s H vs Q E gd hr h => ⟨t_law_right w T, PSs.nox (pss_cons (ps_par (i := 4) (j := 5) rfl sc_law_right.nd rfl rfl (by decide) rfl rfl (pa_cons (pe_callB (call_reprA gd hr.units) (by rfl) T.n_repr (by decide +kernel) (pa_cons (pv 3) pa_nil)) (pa_cons (pe_lc (own := [("_law_row", 6)]) (g := (gName 6)) (tt := tYes) (te := tCall (sp_law_draw T) [] E0 (tCons (tVar 0) (tCons (tCall (sp_law_times T) [] E0 (tCons (tOp (rIxT K) (tVar 6) (tC (.int 1))) (tCons (tVar 3) (tNil)))) (tNil)))) rfl sc_law_right.nd (pi_list (pv 2)) (blkOk_by (own := [("_law_row", 6)]) (N := ["_law_purse_here", "_law_table", "_law_rows", "_law_sizes_here", "_law_kept_sizes", "_law_drawn", "_law_row", "_law_spot_here", "_law_more", "_law_due", "_law_told"]) (sc := defScope s_law_right) (by decide +kernel)) (fun _ _ _ _ _ => (pg_name (i := 6) sc_law_right.nd rfl (Or.inl rfl))) (fun _ _ _ _ _ => pts_nil) (fun _ _ _ _ _ => (pe_call (ok_law_draw T) (hr.mono (by decide)) (by rfl) T.m__law_draw T.F_law_draw.kp (b_law_draw T) .nil pass0 (pa_cons (pv 0) (pa_cons (pe_call (ok_law_times T) (hr.mono (by decide)) (by rfl) T.m__law_times T.F_law_times.kp (b_law_times T) .nil pass0 (pa_cons (pe_ix ix_tup (pv 6) pe_int (fun _ _ => rfl)) (pa_cons (pv 3) pa_nil))) pa_nil))))) pa_nil)) (by rfl))
      (pss_cons (ps_set (i := 7) sc_law_right.nd rfl (Or.inl rfl) (pe_call (ok_law_spot T) (hr.mono (by decide)) (by rfl) T.m__law_spot T.F_law_spot.kp (b_law_spot T) .nil pass0 (pa_cons (pv 2) (pa_cons (pv 3) (pa_cons (pv 5) pa_nil)))))
      (pss_cons (ps_if (pt_cmpR (op_neX hr.units) (pe_call (ok_cell_of T) (hr.mono (by decide)) (by rfl) T.m_cell_of T.F_cell_of.kp (b_cell_of T) .nil pass0 (pa_cons (pv 1) (pa_cons (pv 3) (pa_cons (pv 7) pa_nil)))) (pv 5) (nomark _)) (pss_one (ps_ret pe_bl)) pss_nil)
      (pss_cons (ps_for PassesOwn.never rfl (pi_list (pe_lst (pa_cons pe_int (pa_cons pe_int (pa_cons (pe_op op_add (pv 7) pe_int) (pa_cons (pe_callB (call_maxA rfl) (by rfl) T.n_max (by decide +kernel) (pa_cons (pe_op op_sub (pv 7) pe_int) (pa_cons pe_int pa_nil))) (pa_cons (pe_op op_mulW (pv 7) pe_int) (pa_cons (pe_call (ok_law_draw T) (hr.mono (by decide)) (by rfl) T.m__law_draw T.F_law_draw.kp (b_law_draw T) .nil pass0 (pa_cons (pv 0) (pa_cons (pe_op op_powW pe_int pe_int) pa_nil))) (pa_cons (pe_op op_add pe_int (pe_call (ok_law_draw T) (hr.mono (by decide)) (by rfl) T.m__law_draw T.F_law_draw.kp (b_law_draw T) .nil pass0 (pa_cons (pv 0) (pa_cons pe_int pa_nil)))) pa_nil))))))))) (pg_name (i := 8) sc_law_right.nd rfl (Or.inl rfl)) (pss_cons (ps_set (i := 9) sc_law_right.nd rfl (Or.inl rfl) (pe_call (ok_law_cell T TB) (hr.mono (by decide)) (by rfl) T.m__law_cell T.F_law_cell.kp (b_law_cell T) .nil pass0 (pa_cons (pv 2) (pa_cons (pv 3) (pa_cons (pv 8) pa_nil)))))
      (pss_cons (ps_set (i := 10) sc_law_right.nd rfl (Or.inl rfl) (pe_call (ok_cell_of T) (hr.mono (by decide)) (by rfl) T.m_cell_of T.F_cell_of.kp (b_cell_of T) .nil pass0 (pa_cons (pv 1) (pa_cons (pv 3) (pa_cons (pv 8) pa_nil)))))
      (pss_cons (ps_if (pt_cmpR (op_neX hr.units) (pe_callB (call_reprA gd hr.units) (by rfl) T.n_repr (by decide +kernel) (pa_cons (pv 10) pa_nil)) (pe_callB (call_reprA gd hr.units) (by rfl) T.n_repr (by decide +kernel) (pa_cons (pv 9) pa_nil)) (nomark _)) (pss_one (ps_ret pe_bl)) pss_nil)
      (pss_one (ps_if (pt_cmpR op_notN1 (pv 10) pe_non (nomark _)) (pss_cons (ps_expr (pe_bm PySem.F.plainAttrs_list PySem.F.slot_list_append PySem.F.type_list_append mt_append (pv 10) (pa_cons pe_str pa_nil)))
      (pss_one (ps_if (pt_cmpR (op_neX hr.units) (pe_call (ok_cell_of T) (hr.mono (by decide)) (by rfl) T.m_cell_of T.F_cell_of.kp (b_cell_of T) .nil pass0 (pa_cons (pv 1) (pa_cons (pv 3) (pa_cons (pv 8) pa_nil)))) (pv 9) (nomark _)) (pss_one (ps_ret pe_bl)) pss_nil))) pss_nil))))))
      (pss_one (ps_ret (pe_and (pe_cmpR (op_eqX hr.units) (pe_callB (call_reprA gd hr.units) (by rfl) T.n_repr (by decide +kernel) (pa_cons (pv 3) pa_nil)) (pv 4) (nomark _)) (pe_one (pe_cmpR (op_eqO T.O_Plain (ok_Plain___eq T) (hr.mono (by decide)) (b_Plain___eq T) pass0) (pv 1) (pe_make T.k_Plain (ok_Plain___init T) (hr.mono (by decide)) (by rfl) T.m_Plain (b_Plain___init T) .nil pass0 (pa_cons (pv 2) pa_nil)) (nomark _)))))))))), rd_law_right T vs H Q E h⟩
end
end CP

namespace CP
open PySem L2
section
variable {P : Program} {w : World} {K : PySem.W.Frag} {mg : Str → Option Value} {base : Heap}
def sp_law (T : Txt K mg) : Sp := fun vs H Q _ => ∃ (a : Addr) (ns : List Int), vs = [.ref a] ∧ SqL K H a (ns.map V.int) ∧ ns.length ≤ 63 ∧ H T.tP = some (.tbl #[]) ∧ ∀ H', Q (.bl true) H'
def sp_top (K : PySem.W.Frag) (P : Addr) : Sp := fun vs H Q _ => ∃ (a : Addr) (ns : List Int), vs = [.ref a] ∧ SqL K H a (ns.map V.int) ∧ ns.length ≤ 63 ∧ H P = some (.tbl #[]) ∧ ∀ H', Q (.bl true) H'
theorem sp_law_top (T : Txt K mg) (vs : List V) (H : Hp) (Q : VK) (E : XK) (z : sp_top K T.tP vs H Q E) : sp_law T vs H Q E := z
/-- all is kept but p, the tables and the dicts -/
def Kq (p : Addr) (H H' : Hp) : Prop := ∀ b o, b ≠ p → H b = some o → (∀ ps, o ≠ .tbl ps) → (∀ kv, o ≠ .dK kv) → H' b = some o
theorem Kq.trans {p : Addr} {H H1 H2 : Hp} (a : Kq p H H1) (b : Kq p H1 H2) : Kq p H H2 := fun c o n h t d => b c o n (a c o n h t d) t d
theorem Kq.sb {p : Addr} {H H' : Hp} (s : SB p H H') : Kq p H H' := fun b o n h _ _ => s b o n h
theorem Kq.of {p : Addr} {H H' : Hp} (s : Same H H') : Kq p H H' := fun b o _ h _ _ => s b o h
theorem Kq.ext {p : Addr} {H H' : Hp} (s : LamX.ExtN H H') : Kq p H H' := fun b o _ h t _ => s b o h t
theorem Kq.dict {p d : Addr} {kv : List (Key × V)} {H H' : Hp} (h : H d = some (.dK kv)) (s : SB d H H') : Kq p H H' := fun b o _ hb _ nd => s b o (fun z => by rw [z, h] at hb; exact nd kv (Option.some.inj hb).symm) hb
theorem Kq.side {p : Addr} {H H' : Hp} {x y z : Int} (hp : H p = some (.lst [.int x, .int y, .int z])) (k : Kq p H H') {v : V} {r : Sd} (h : SideAt H v r) : SideAt H' v r := by
  obtain ⟨t, a, b, e, h1, h2, h3⟩ := h
  exact ⟨t, a, b, e, k _ _ (fun z => by rw [z, hp] at h1; cases h1) h1 (fun _ z => by cases z) (fun _ z => by cases z), k _ _ (purse_txt hp h2) h2 (fun _ z => by cases z) (fun _ z => by cases z), k _ _ (purse_txt hp h3) h3 (fun _ z => by cases z) (fun _ z => by cases z)⟩
theorem Kq.rows {p : Addr} {H H' : Hp} {x y z : Int} (hp : H p = some (.lst [.int x, .int y, .int z])) (k : Kq p H H') {q : Addr} {rows : List Sd} (h : RowsAt H q rows) : RowsAt H' q rows := by
  have ne := rows_ne hp h
  obtain ⟨vs, hv, pr⟩ := h
  exact ⟨vs, k _ _ ne hv (fun _ z => by cases z) (fun _ z => by cases z), pd_mono pr fun _ _ w => k.side hp w⟩
theorem Kq.tab {p : Addr} {H H' : Hp} {x y z : Int} (hp : H p = some (.lst [.int x, .int y, .int z])) (k : Kq p H H') {C o : Addr} {rows : List Sd} (h : TabAt C H o rows) : TabAt C H' o rows := by
  obtain ⟨dx, q, h1, h2⟩ := h
  exact ⟨dx, q, k _ _ (fun z => by rw [z, hp] at h1; cases h1) h1 (fun _ z => by cases z) (fun _ z => by cases z), k.rows hp h2⟩
theorem Kq.seq {K : PySem.W.Frag} {p a : Addr} {H H' : Hp} {xs : List V} (p0 : H p = none) (k : Kq p H H') (h : SqL K H a xs) : SqL K H' a xs := by
  rcases h with (h | ⟨o, h⟩) | h
  · exact .inl (.inl (k _ _ (ne_of_none h p0) h (fun _ z => by cases z) (fun _ z => by cases z)))
  · exact .inl (.inr ⟨o, k _ _ (ne_of_none h p0) h (fun _ z => by cases z) (fun _ z => by cases z)⟩)
  · exact .inr h
theorem Kq.r {p : Addr} {H H' : Hp} (s : Kr p H H') : Kq p H H' := fun b o n h t _ => s b o n h t
theorem r_neg54 {i : Int} {H : Hp} {Q : VK} (q : Q (.int (-i)) H) : oNeg (.int i) H Q := ⟨i, rfl, q⟩
def h54 : List Sd := [("r", ["m"], ["n"]), ("c", ["n"], [])]
def h54f : List Sd := [("c", ["n"], []), ("r", ["m"], ["n"])]
def h54v : List (Str × Int) := setD [("m", 2)] "n" 3
def h54o : List (Option (List Int)) := [some [0, 0], some [0, 1], some [0, 2], some [1, 0], some [1, 1], some [1, 2], none]
theorem h54_ord : orderM (h54.map srow) = .inl h54f := by rfl
theorem h54_told : ∀ (n : Nat) (oc : Option (List Int)), h54o[n]? = some oc → foundM (h54.map srow) h54f (atD h54v) (0 + (n : Int)) = oc
  | 0, oc, h => by cases h; decide +kernel
  | 1, oc, h => by cases h; decide +kernel
  | 2, oc, h => by cases h; decide +kernel
  | 3, oc, h => by cases h; decide +kernel
  | 4, oc, h => by cases h; decide +kernel
  | 5, oc, h => by cases h; decide +kernel
  | 6, oc, h => by cases h; decide +kernel
  | n + 7, oc, h => by cases h
theorem ToldAt.mono {oc : Option (List Int)} {v : V} {H H' : Hp} (h : ToldAt oc v H) (s : Same H H') : ToldAt oc v H' := by
  cases oc with
  | none => exact h
  | some c => exact h.imp fun _ w => ⟨w.1, s _ _ w.2⟩
theorem told_dps {K : PySem.W.Frag} {H : Hp} {vs : List V} {os : List (Option (List Int))} (h : Paired (fun v b => ToldAt b v H) vs os) : DpAll K H vs (os.map toldD) := by
  induction h with
  | nil => exact .nil
  | @cons v b _ _ h _ ih =>
    refine .cons ?_ ih
    cases b with
    | none => cases h; exact .non
    | some c =>
      obtain ⟨q, rfl, hq⟩ := h
      exact .lst (.of hq) (ints_dpA c)
theorem two_dp {K : PySem.W.Frag} {H : Hp} {a : Addr} {x y : Int} (h : H a = some (.lst [.int x, .int y])) : Dp K H (.ref a) (.list [.int x, .int y]) := .lst (.of h) (.cons (.int x) (.cons (.int y) .nil))
theorem h54_ok : Rows h54 := rows_by (by decide +kernel)
def t_law (w : World) (T : Txt K mg) : TS := tSeq (tFor (iRng1 (tCons (tCB oMax2 (tCons (tC (.int 1)) (tCons (tCB (rLenA K) (tCons (tSl (rSlL K) (tVar 0) tNoPart (tPart (tC (.int 16)))) (tNil))) (tNil)))) (tNil))) (gName 1) (tSeq (tAsg (tCall (sp_law_purse T) [] E0 (tCons (tVar 0) (tCons (tVar 1) (tNil)))) (gName 2)) (tSeq (tAsg (tCall (sp_law_chain T) [] E0 (tCons (tVar 2) (tCons (tOp oAdd (tC (.int 1)) (tCall (sp_law_draw T) [] E0 (tCons (tVar 2) (tCons (tC (.int 6)) (tNil))))) (tCons (tOp (rIxL K) (tLst (tCons (tC (.int 2)) (tCons (tC (.int 4)) (tCons (tOp oPow (tC (.int 10)) (tC (.int 9))) (tNil))))) (tCall (sp_law_draw T) [] E0 (tCons (tVar 2) (tCons (tC (.int 3)) (tNil))))) (tNil))))) (gName 3)) (tIfS (tB (tCall (sp_law_chained T) [] E0 (tCons (tVar 3) (tNil)))) (tSeq (tAsg (tCall (sp_law_shuffled T) [] E0 (tCons (tVar 2) (tCons (tVar 3) (tNil)))) (gName 3)) (tSeq (tAsg (tMake T.a_Plain (sp_Plain___init T) [] E0 (tCons (tVar 3) (tNil))) (gName 4)) (tFor (iTup K (tTup (tCons (tC (.int 3)) (tCons (tC (.int 10)) (tCons (tC (.int 100)) (tCons (tC (.int 1000)) (tNil))))))) (gName 5) (tSeq (tAsg (tDisp ((tC (.str "aa"), tUn oNeg (tC (.int 5))) :: [])) (gName 6)) (tSeq (tDrop (tBM K "dict" rDUpd (tVar 6) (tCons (tCall (sp_law_sizes T) [] E0 (tCons (tVar 2) (tCons (tVar 3) (tCons (tVar 5) (tNil))))) (tNil)))) (tSeq (sDPut (tVar 6) (tC (.str "unused")) (tOp oSub (tC (.int 0)) (tCall (sp_law_draw T) [] E0 (tCons (tVar 2) (tCons (tC (.int 9)) (tNil)))))) (tSeq (sDPut (tVar 6) (tOp (rIxT K) (tOp (rIxL K) (tVar 3) (tC (.int 0))) (tC (.int 0))) (tUn oNeg (tC (.int 7)))) (tSeq (tIfS (tNot (tB (tCall (sp_law_right T) [] E0 (tCons (tVar 2) (tCons (tVar 4) (tCons (tVar 3) (tCons (tVar 6) (tNil)))))))) (tRet (tC (.bl false))) (tNext)) (tSeq (tFor (iList K (tCall (sp_law_used T) [] E0 (tCons (tVar 3) (tNil)))) (gName 7) (sDPut (tVar 6) (tVar 7) (tOp oAdd (tDGet (tVar 6) (tVar 7)) (tC (.int 1))))) (tIfS (tNot (tB (tCall (sp_law_right T) [] E0 (tCons (tVar 2) (tCons (tVar 4) (tCons (tVar 3) (tCons (tVar 6) (tNil)))))))) (tRet (tC (.bl false))) (tNext))))))))))) (tNext))))) (tSeq (tAsg (tMake T.a_Plain (sp_Plain___init T) [] E0 (tCons (tLst (tCons (tTup (tCons (tC (.str "r")) (tCons (tLst (tCons (tC (.str "m")) (tNil))) (tCons (tLst (tCons (tC (.str "n")) (tNil))) (tNil))))) (tCons (tTup (tCons (tC (.str "c")) (tCons (tLst (tCons (tC (.str "n")) (tNil))) (tCons (tLst (tNil)) (tNil))))) (tNil)))) (tNil))) (gName 4)) (tRet (tOp (rEqX K) (tLc (iRng1 (tCons (tC (.int 7)) (tNil))) (gName 8) (tYes) (tCall (sp_cell_of T) [] E0 (tCons (tVar 4) (tCons (tDisp ((tC (.str "m"), tC (.int 2)) :: (tC (.str "n"), tC (.int 3)) :: [])) (tCons (tVar 8) (tNil))))) [8]) (tLst (tCons (tLst (tCons (tC (.int 0)) (tCons (tC (.int 0)) (tNil)))) (tCons (tLst (tCons (tC (.int 0)) (tCons (tC (.int 1)) (tNil)))) (tCons (tLst (tCons (tC (.int 0)) (tCons (tC (.int 2)) (tNil)))) (tCons (tLst (tCons (tC (.int 1)) (tCons (tC (.int 0)) (tNil)))) (tCons (tLst (tCons (tC (.int 1)) (tCons (tC (.int 1)) (tNil)))) (tCons (tLst (tCons (tC (.int 1)) (tCons (tC (.int 2)) (tNil)))) (tCons (tC .non) (tNil))))))))))))
theorem len_law (T : Txt K mg) : ∀ (vs : List V) (H : Hp) (Q : VK) (E : XK), sp_law T vs H Q E → vs.length = (["_law_script"] : List Str).length := by
  rintro vs H Q E ⟨a, ns, rfl, h⟩
  rfl
theorem rd_law (T : Txt K mg) (vs : List V) (H : Hp) (Q : VK) (E : XK) (h : sp_law T vs H Q E) : t_law w T { nx := fun _ H' => Q .non H', rt := Q } (start ["_law_script", "_law_cell_here", "_law_purse_here", "_law_rows", "_law_table", "_law_most", "_law_sizes_here", "_law_one", "_law_spot_here"] vs) H := by
  obtain ⟨a, ns, rfl, ha, hn, hTb, q⟩ := h
  have sz : sizeLine = 16777216 := rfl
  have T0 : LamX.Tabs (lamTab T.tP) H := fun p hp => by
    rw [List.mem_singleton.mp hp]
    exact LamX.TabS.nil hTb
  unfold t_law
  walk_at "st"
  repeat walk_at "w"
  rename_i l0 H0 l1 s0 l2
  have hc := cutV_length (ns.map V.int) none (some 16)
  rw [List.length_map] at hc
  generalize (cutV (ns.map V.int) none (some 16)).length = k at hc ⊢
  have hj : -(2 ^ 62) ≤ (if (k : Int) > 1 then (k : Int) else 1) ∧ (if (k : Int) > 1 then (k : Int) else 1) < 2 ^ 62 ∧ (if (k : Int) > 1 then (k : Int) else 1) < 2 ^ 10 := by split <;> omega
  generalize (if (k : Int) > 1 then (k : Int) else 1) = j at hj ⊢
  refine r_rng hj.1 hj.2.1 ?_
  refine for_range (fun i σ H' => SqL K H' a (ns.map V.int) ∧ LamX.Tabs (lamTab T.tP) H' ∧ ∃ x1 x2 x3 x4 x5 x6 x7 x8, σ = [some (.ref a), x1, x2, x3, x4, x5, x6, x7, x8]) ⟨L2.Same.seq s0 ha, T0.ext s0, _, _, _, _, _, _, _, _, rfl⟩ ?_ ?_
  · rintro i σ H1 hi ⟨ha, T1, x1, x2, x3, x4, x5, x6, x7, x8, rfl⟩
    repeat walk_at "w"
    refine ⟨ns, ha, by omega, by omega, fun p H2 x y p0 s2 hp => ?_⟩
    repeat walk_at "w"
    refine ⟨x, y, _, hp, by omega, by decide, by decide, fun d1 H3 u1 z1 a1 b1 t1 hp1 hz1 => ?_⟩
    repeat walk_at "w"
    refine r_I ⟨by decide, by decide, by decide +kernel⟩ ?_
    rw [show ((10 : Int) ^ (9 : Int).toNat) = 1000000000 by decide +kernel]
    repeat walk_at "w"
    rename_i g4 H4 g40 s4 hg4
    have hp4 := hp1.mono s4
    refine ⟨u1, y, z1, hp4, by omega, by decide, by decide, fun d2 H5 u2 z2 a2 b2 t2 hp2 hz2 => ?_⟩
    have hg5 := t2 _ _ (ne_of_none hp1.1 g40).symm hg4
    obtain ⟨mv, hmv, mv0, mv1⟩ : ∃ mv, atI [V.int 2, .int 4, .int 1000000000] d2 = some (.int mv) ∧ 1 ≤ mv ∧ mv ≤ 1000000000 := by
      obtain ⟨n, rfl⟩ := Int.eq_ofNat_of_zero_le a2
      match n, b2 with
      | 0, _ => exact ⟨2, rfl, by decide, by decide⟩
      | 1, _ => exact ⟨4, rfl, by decide, by decide⟩
      | 2, _ => exact ⟨1000000000, rfl, by decide, by decide⟩
      | n + 3, h => exact absurd h (by omega)
    refine r_ixL (.of hg5) hmv ?_
    repeat walk_at "w"
    refine ⟨u2, y, z2, hp2, by omega, by omega, by omega, by omega, by omega, fun r rows H6 u3 z3 dr nd ln r0 t3 hr hp3 hz3 => ?_⟩
    have B6 : SB p H2 H6 := SB.trans' (SB.trans' (SB.trans' t1 (Same.sb' s4)) t2) t3
    have T6 := tabs_p (T1.ext s2) hp.1 B6
    have ha6 := Kq.seq p0 ((Kq.of s2).trans (Kq.sb B6)) ha
    have K16 : Kq p H1 H6 := (Kq.of s2).trans (Kq.sb B6)
    have hr := hr.mono hid2_same
    clear t1 t2 t3 s4 hg4 hg5 hp1 hp2 hp4 hp B6
    have rl : 1 ≤ rows.length ∧ rows.length ≤ 6 := by omega
    have ne : rows ≠ [] := fun z => by rw [z] at rl; simp at rl
    have hR : Rows rows := dr.rows ne nd (by omega)
    repeat walk_at "w"
    refine ⟨rows, hr, hR, fun b H7 hb s7 => ?_⟩
    cases b with
    | false =>
      repeat walk_at "w"
      exact ⟨L2.Same.seq s7 ha6, T6.ext s7, _, _, _, _, _, _, _, _, rfl⟩
    | true =>
      have comp := hb.mp rfl
      clear hb
      have r3 : r ≠ p := rows_ne hp3.1 hr
      have hr7 := hr.mono s7
      have hp7 := hp3.mono s7
      obtain ⟨vs7, hv7, pr7⟩ := hr7
      have vl7 := pd_len pr7
      repeat walk_at "w"
      refine ⟨u3, y, z3, _, hp7, by omega, hv7, r3, by omega, fun g ys H8 u4 z4 pm g0 b8 hg hp4 hz4 => ?_⟩
      obtain ⟨rows8, pr8, pm8⟩ := pd_perm pm (pd_mono pr7 fun _ _ w => side_sb hp7.1 b8 w)
      have hr8 : RowsAt H8 g rows8 := ⟨ys, hg, pr8⟩
      have dr8 : Drawn rows8 := ⟨fun r hr => dr.name r (pm8.mem_iff.mp hr), fun r hr => dr.size r (pm8.mem_iff.mp hr), fun r hr => dr.step r (pm8.mem_iff.mp hr)⟩
      have nd8 : (rows8.map (·.1)).Nodup := ((pm8.map _).nodup_iff).mpr nd
      have rl8 : 1 ≤ rows8.length ∧ rows8.length ≤ 6 := by rw [pm8.length_eq]; exact rl
      have comp8 : (rows8.filter fun r => decide (r.2.1 ≠ [])).Pairwise Comp := ((pm8.filter _).pairwise_iff (fun k => k.symm)).mpr comp
      have T8 := tabs_p (T6.ext s7) hp7.1 b8
      have K18 : Kq p H1 H8 := (K16.trans (Kq.of s7)).trans (Kq.sb b8)
      have hz8 : z4 < 2 ^ 49 := by omega
      clear hv7 pr7 vl7 pm pr8 hg b8 r3 hp3 dr nd ln rl pm8 hr hp7 T6 ha6 K16 ne hR comp r0 s7 hz3 hz2 hz1 hz4
      rename_i rows0
      have ne : rows8 ≠ [] := fun z => by rw [z] at rl8; simp at rl8
      have hR : Rows rows8 := dr8.rows ne nd8 (by omega)
      obtain ⟨fs, e1⟩ := order_iff.mpr comp8
      repeat walk_at "w"
      refine plain_new T hr8 hR fun o H9 o0 s9 hT9 => ?_
      have hp9 := hp4.mono s9
      have hr9 := hr8.mono s9
      have T9 := T8.ext s9
      have K19 : Kq p H1 H9 := K18.trans (Kq.of s9)
      clear hp4 hr8 T8 K18 s9 o0
      repeat walk_at "w"
      rename_i tm H10 tm0 s10 htm
      have hp10 := hp9.mono s10
      have hr10 := hr9.mono s10
      have hT10 := hT9.mono s10
      have T10 := T9.ext s10
      have K110 : Kq p H1 H10 := K19.trans (Kq.of s10)
      have short : ∀ r ∈ rows8, r.2.1.length ≤ 3 ∧ r.2.2.length ≤ 6 := fun r hr => ⟨(dr8.size r hr).2, (dr8.step r hr).2⟩
      have szs := dr8.sizes
      have szn := sizes_nd rows8
      have tp : tm ≠ p := (ne_of_none hp9.1 tm0).symm
      obtain ⟨r0, rows', er⟩ : ∃ r0 rows', rows8 = r0 :: rows' := by
        cases rows8 with
        | nil => exact absurd rfl ne
        | cons r0 rows' => exact ⟨r0, rows', rfl⟩
      have hr0 : rows8[0]? = some r0 := by rw [er]; rfl
      have r0m : r0 ∈ rows8 := by rw [er]; exact List.mem_cons_self ..
      have un : ("unused" : Str) ∉ sizesM rows8 := fun z => by
        obtain ⟨r, hr, hw⟩ := List.mem_flatMap.mp (mem_ltrs.mp z)
        have : ("unused" : Str) ∈ sizeW := (List.mem_append.mp hw).elim ((dr8.size r hr).1 _) ((dr8.step r hr).1 _)
        exact absurd this (by decide +kernel)
      have rn : r0.1 ∉ sizesM rows8 := fun z => by
        obtain ⟨r, hr, hw⟩ := List.mem_flatMap.mp (mem_ltrs.mp z)
        exact hR.out r hr _ hw (List.mem_map.mpr ⟨r0, r0m, rfl⟩)
      clear hp9 hr9 hT9 T9 K19 s10
      refine ⟨tm, rfl, ⟨_, .of htm⟩, for_tup (K := K) (a := tm) (xs := [.int 3, .int 10, .int 100, .int 1000]) (fun n σ H' => Kq p H10 H' ∧ LamX.Tabs (lamTab T.tP) H' ∧ (∃ u z, Purse H' p u y z ∧ z ≤ z4 + 300000 * n) ∧ ∃ x5 x6 x7 x8, σ = [some (.ref a), some (.int (0 + (i : Int))), some (.ref p), some (.ref g), some (.ref o), x5, x6, x7, x8]) ⟨fun _ _ _ h _ _ => h, T10, ⟨u4, z4, hp10, by omega⟩, _, _, _, _, rfl⟩ (fun _ _ _ _ w => .of (w.1 _ _ tp htm (fun _ z => by cases z) (fun _ z => by cases z))) ?_ ?_⟩
      · rintro n v σ H11 hx ⟨k11, T11, ⟨u5, z5, hp11, hz11⟩, y5, y6, y7, y8, rfl⟩
        obtain ⟨m, rfl, m1, m2⟩ : ∃ m : Int, v = .int m ∧ 1 ≤ m ∧ m ≤ 1000 := by
          match n, hx with
          | 0, h => exact ⟨3, (Option.some.inj h).symm, by decide, by decide⟩
          | 1, h => exact ⟨10, (Option.some.inj h).symm, by decide, by decide⟩
          | 2, h => exact ⟨100, (Option.some.inj h).symm, by decide, by decide⟩
          | 3, h => exact ⟨1000, (Option.some.inj h).symm, by decide, by decide⟩
          | n + 4, h => cases h
        have nl : n < 4 := (List.getElem?_eq_some_iff.mp hx).1
        have hr11 := k11.rows hp10.1 hr10
        have hT11 := k11.tab hp10.1 hT10
        repeat walk_at "w"
        refine r_disp1g fun d H12 d0 s12 hd0 => ?_
        repeat walk_at "w"
        refine r_neg54 ?_
        refine disp_end1 hd0 fun H13 b13 hd13 => ?_
        have s13 : Same H11 H13 := CP.Same.sb s12 d0 b13
        have hp13 := hp11.mono s13
        have hr13 := hr11.mono s13
        have hT13 := hT11.mono s13
        have dp : d ≠ p := (ne_of_none hp11.1 d0).symm
        repeat walk_at "w"
        refine ⟨.inr (.inr (.inl ⟨rfl, .inl ⟨_, hd13⟩⟩)), ?_⟩
        repeat walk_at "w"
        refine ⟨u5, y, z5, rows8, hp13, by omega, hr13, hR, m1, m2, fun d2 kv H14 u6 z6 kn km kb d20 b14 hd2 hp14 hz14 => ?_⟩
        have K14 : Kq p H11 H14 := (Kq.of s13).trans (Kq.sb b14)
        have T14 := tabs_p (T11.ext s13) hp13.1 b14
        have hd14 := b14 _ _ dp hd13
        have dd2 : d ≠ d2 := ne_of_none hd13 d20
        have B0 := KvB.start hR kn km kb m2 (by omega)
        have kl : kv.length ≤ 8 := by
          have h1 := List.Nodup.length_le_of_subset kn (fun k hk => (km k).mp hk)
          rw [List.length_map] at h1
          omega
        repeat walk_at "w"
        refine r_dupd dd2 hd14 hd2 (by unfold dV; rw [List.length_map, List.length_map]; simp only [List.length_cons, List.length_nil]; omega) fun H15 b15 hd15 => ?_
        rw [merge_dV (by simp)] at hd15
        have hp15 : Purse H15 p u6 y z6 := ⟨b15 _ _ dp.symm hp14.1, hp14.2⟩
        have K15 : Kq p H11 H15 := K14.trans (Kq.dict hd14 b15)
        have T15 := tabs_sb T14 hd14 (fun _ z => by cases z) (fun _ z => by cases z) b15
        clear b13 s12 s13 b14 b15 hp13 hr13 hT13 hp14 K14 T14 hd2 hd0
        repeat walk_at "w"
        refine ⟨u6, y, z6, hp15, by omega, by decide, by decide, fun k1 H16 u7 z7 a7 b7 t7 hp16 hz16 => ?_⟩
        have hd16 := t7 _ _ dp hd15
        have K16 : Kq p H11 H16 := K15.trans (Kq.sb t7)
        have T16 := tabs_p T15 hp15.1 t7
        repeat walk_at "w"
        refine r_dputS hd16 (by unfold dV; rw [List.length_map]; have := B0.few; omega) fun H17 b17 hd17 => ?_
        rw [dV_put _ _ _ B0.nd] at hd17
        have B1 := B0.other (n := 0 - k1) un (by decide +kernel) (by omega)
        have hp17 : Purse H17 p u7 y z7 := ⟨b17 _ _ dp.symm hp16.1, hp16.2⟩
        have K17 : Kq p H11 H17 := K16.trans (Kq.dict hd16 b17)
        have T17 := tabs_sb T16 hd16 (fun _ z => by cases z) (fun _ z => by cases z) b17
        have hr17 := K17.rows hp11.1 hr11
        have hr17' := hr17
        obtain ⟨vs17, hv17, pr17⟩ := hr17'
        obtain ⟨t0, ht0, tr0⟩ := pd_get' pr17 hr0
        obtain ⟨t1, ra, rb, rfl, hh1, hh2, hh3⟩ := tr0
        repeat walk_at "w"
        refine r_neg54 ?_
        repeat walk_at "w"
        refine r_ixL (.of hv17) (show atI vs17 ((0 : Nat) : Int) = _ from atI_nat ht0) ?_
        repeat walk_at "w"
        refine r_ixT (i := 0) (.of hh1) (v := .str r0.1) (by rfl) ?_
        repeat walk_at "w"
        refine r_dputS hd17 (by unfold dV; rw [List.length_map]; have := B1.few; omega) fun H18 b18 hd18 => ?_
        rw [dV_put _ _ _ B1.nd] at hd18
        have B2 := B1.other (n := -7) rn (hR.name r0 r0m) (by decide)
        have hp18 : Purse H18 p u7 y z7 := ⟨b18 _ _ dp.symm hp17.1, hp17.2⟩
        have K18 : Kq p H11 H18 := K17.trans (Kq.dict hd17 b18)
        have T18 := tabs_sb T17 hd17 (fun _ z => by cases z) (fun _ z => by cases z) b18
        have hr18 := K18.rows hp11.1 hr11
        have hT18 := K18.tab hp11.1 hT11
        clear b17 b18 hd16 hd17 hp16 hp17 K15 K16 K17 T15 T16 T17 hr17 hv17 pr17 ht0 hh1 hh2 hh3 hp15 hd15 t7 hd14
        repeat walk_at "w"
        refine ⟨u7, y, z7, rows8, fs, _, hp18, by omega, hT18, hr18, hR, rl8.2, short, e1, hd18, B2.ok (by omega), T18, fun H19 u8 z8 kr19 T19 hp19 hz19 => ?_⟩
        have hd19 := kr19.dk hp18.1 hd18
        have K19 : Kq p H11 H19 := K18.trans (Kq.r kr19)
        have hr19 := K19.rows hp11.1 hr11
        repeat walk_at "w"
        refine ⟨rows8, hr19, hR, fun f H20 f0 s20 hf => ?_⟩
        have fd : f ≠ d := (ne_of_none hd19 f0).symm
        refine ⟨f, rfl, ⟨_, .of hf⟩, for_list (K := K) (a := f) (xs := strL (sizesM rows8)) (fun n2 σ H' => SB d H20 H' ∧ (∃ kw, H' d = some (.dK (dV kw)) ∧ KvB kw rows8 (0 + 1 + 1 + n2) ((sizesM rows8).take n2)) ∧ ∃ x7 x8, σ = [some (.ref a), some (.int (0 + (i : Int))), some (.ref p), some (.ref g), some (.ref o), some (.int m), some (.ref d), x7, x8]) ⟨fun _ _ _ h => h, ⟨_, CP.Same.to s20 hd19, B2⟩, _, _, rfl⟩ (fun _ _ _ _ w => .of (w.1 _ _ fd hf)) ?_ ?_⟩
        · rintro n2 v σ H21 hx ⟨b21, ⟨kw, hd21, B3⟩, w7, w8, rfl⟩
          obtain ⟨w, hw, rfl⟩ := strL_get hx
          have il : n2 < (sizesM rows8).length := (List.getElem?_eq_some_iff.mp hw).1
          have wn : w ∉ (sizesM rows8).take n2 := by
            intro hm
            have := szn
            rw [← List.take_append_drop (n2 + 1) (sizesM rows8), take_succ hw] at this
            exact (List.nodup_append.mp (List.nodup_append.mp this).1).2.2 w hm w (List.mem_singleton.mpr rfl) rfl
          have wm : w ∈ sizesM rows8 := List.mem_of_getElem? hw
          obtain ⟨q1, q2, q3, q4⟩ := B3.val w wm
          have gv : getD kw w = some (atD kw w) := by
            unfold atD
            cases e : getD kw w with
            | none => rw [e] at q1; cases q1
            | some v => rfl
          repeat walk_at "w"
          refine r_dgetS hd21 (by rw [dV_val, gv]; rfl) ?_
          repeat walk_at "w"
          refine r_dputS hd21 (by unfold dV; rw [List.length_map]; have := B3.few; omega) fun H22 b22 hd22 => ?_
          rw [dV_put _ _ _ B3.nd] at hd22
          have B4 := B3.inc wm (sizes_let hR w wm) wn
          rw [← take_succ hw] at B4
          repeat walk_at "w"
          exact ⟨SB.trans' b21 b22, ⟨_, hd22, B4⟩, _, _, rfl⟩
        · rintro σ H21 ⟨b21, ⟨kw, hd21, B3⟩, w7, w8, rfl⟩
          rw [strL_len] at B3
          have hd20 := CP.Same.to s20 hd19
          have hp21 : Purse H21 p u8 y z8 := ⟨b21 _ _ dp.symm (CP.Same.to s20 hp19.1), hp19.2⟩
          have K21 : Kq p H11 H21 := (K19.trans (Kq.of s20)).trans (Kq.dict hd20 b21)
          have T21 := tabs_sb (T19.ext s20) hd20 (fun _ z => by cases z) (fun _ z => by cases z) b21
          have hr21 := K21.rows hp11.1 hr11
          have hT21 := K21.tab hp11.1 hT11
          repeat walk_at "w"
          refine ⟨u8, y, z8, rows8, fs, kw, hp21, by omega, hT21, hr21, hR, rl8.2, short, e1, hd21, B3.ok (by omega), T21, fun H22 u9 z9 kr22 T22 hp22 hz22 => ?_⟩
          repeat walk_at "w"
          exact ⟨k11.trans (K21.trans (Kq.r kr22)), T22, ⟨u9, z9, hp22, by push_cast; omega⟩, _, _, _, _, rfl⟩
      · rintro σ H11 ⟨k11, T11, ⟨u5, z5, hp11, hz11⟩, y5, y6, y7, y8, rfl⟩
        repeat walk_at "w"
        exact ⟨Kq.seq p0 (K110.trans k11) ha, T11, _, _, _, _, _, _, _, _, rfl⟩
  · rintro σ H1 ⟨ha, T1, x1, x2, x3, x4, x5, x6, x7, x8, rfl⟩
    repeat walk_at "w"
    rename_i A1 G1 A10 t1 hA1 A2 G2 A20 t2 hA2 A3 G3 A30 t3 hA3 A4 G4 A40 t4 hA4 A5 G5 A50 t5 hA5 A6 G6 A60 t6 hA6 A7 G7 A70 t7 hA7
    have hra : RowsAt G7 A7 h54 := ⟨[.ref A3, .ref A6], hA7, .cons ⟨A3, A1, A2, rfl, CP.Same.to (((t4.trans t5).trans t6).trans t7) hA3, CP.Same.to (((((t2.trans t3).trans t4).trans t5).trans t6).trans t7) hA1, CP.Same.to ((((t3.trans t4).trans t5).trans t6).trans t7) hA2⟩ (.cons ⟨A6, A4, A5, rfl, CP.Same.to t7 hA6, CP.Same.to ((t5.trans t6).trans t7) hA4, CP.Same.to (t6.trans t7) hA5⟩ .nil)⟩
    refine plain_new T hra h54_ok fun o H2 o0 s2 hT => ?_
    clear hra hA1 hA2 hA3 hA4 hA5 hA6 hA7 t1 t2 t3 t4 t5 t6 t7 s2
    repeat walk_at "w"
    refine fun D hD => lc_tellR (β := Option (List Int)) (fun H v b => ToldAt b v H) (h54o.map some) hD (by rfl) (by decide) (fun H H' v b s h => ToldAt.mono h s) (fun n oc H3 hn2 hoc s3 hacc N no yes => ?_) fun H3 acc s3 hacc pacc => ?_
    · obtain ⟨acc0, hD3⟩ := hacc
      have hoc' : h54o[n]? = some oc.get! ∧ oc = some oc.get! := by
        rw [List.getElem?_map] at hoc
        obtain ⟨u, hu, e⟩ := Option.map_eq_some_iff.mp hoc
        subst e
        exact ⟨hu, rfl⟩
      obtain ⟨ho, eoc⟩ := hoc'
      generalize oc.get! = od at ho eoc
      subst eoc
      have n7 : n < 7 := (List.getElem?_eq_some_iff.mp ho).1
      repeat walk_at "w"
      refine ⟨rfl, r_yes (if_t ?_)⟩
      repeat walk_at "w"
      refine r_disp2g fun d G1 d0 t1 e1 => ?_
      repeat walk_at "w"
      refine disp_end2 e1 fun G2 b2 h2 => ?_
      have S2 : Same H3 G2 := CP.Same.sb t1 d0 b2
      repeat walk_at "w"
      have n100 : (0 : Int) + (n : Int) < 2 ^ 100 := Int.lt_trans (show (0 : Int) + (n : Int) < 7 by omega) (by decide +kernel)
      refine ⟨_, h54f, h54v, hT.mono (s3.trans S2), h54_ok.srow, h54_ord, h2, by decide +kernel, by decide +kernel, by decide, by decide +kernel, by omega, n100, fun v G3 s5 hv fr => ?_⟩
      have hv2 := told_cell.mp hv
      rw [h54_told n od ho] at hv2
      refine yes _ _ _ rfl (S2.trans s5) ?_
      cases od with
      | none => exact hv2
      | some c =>
        obtain ⟨q1, rfl, hq⟩ := hv2
        have nD : q1 ≠ D := fun z => by
          have := fr q1 rfl
          rw [z, CP.Same.to S2 hD3] at this
          cases this
        exact ⟨q1, rfl, by rw [hide_ne nD]; exact hq⟩
    rw [show (h54o.map some).filterMap id = h54o from rfl] at pacc
    repeat walk_at "w"
    rename_i C1 F1 C10 w1 hC1 C2 F2 C20 w2 hC2 C3 F3 C30 w3 hC3 C4 F4 C40 w4 hC4 C5 F5 C50 w5 hC5 C6 F6 C60 w6 hC6 C7 F7 C70 w7 hC7
    have S67 := w7
    have S57 := w6.trans S67
    have S47 := w5.trans S57
    have S37 := w4.trans S47
    have S27 := w3.trans S37
    have S17 := w2.trans S27
    have S07 := w1.trans S17
    have L := told_dps (K := K) (pd_mono pacc fun v b w => ToldAt.mono w S07)
    have D2 : DpAll K F7 [.ref C1, .ref C2, .ref C3, .ref C4, .ref C5, .ref C6, .non] (h54o.map toldD) := .cons (two_dp (CP.Same.to S17 hC1)) (.cons (two_dp (CP.Same.to S27 hC2)) (.cons (two_dp (CP.Same.to S37 hC3)) (.cons (two_dp (CP.Same.to S47 hC4)) (.cons (two_dp (CP.Same.to S57 hC5)) (.cons (two_dp (CP.Same.to S67 hC6)) (.cons .non .nil))))))
    refine .inr (.inl ⟨_, _, .lst (.of (CP.Same.to S07 hacc)) L, .lst (.of hC7) D2, by decide +kernel, by decide +kernel, ?_⟩)
    rw [show PyData.eqv (.list (h54o.map toldD)) (.list (h54o.map toldD)) = true by decide +kernel]
    exact q _

theorem ok_law (T : Txt K mg) (TB : LamX.TabB base mg T.tc T.tP) : FnG P w K mg base CX0 12 T.a_law T.fd_law ["_law_script"] (sp_law T) :=
  Fun.okG T.F_law sc_law (len_law T) fun cdv A outer s H vs Q E gd hr h => ⟨t_law w T, PSs.nox (pss_cons (ps_for PassesOwn.never rfl (pi_range1 (by rfl) T.n_range (pa_cons (pe_callB (call_maxA rfl) (by rfl) T.n_max (by decide +kernel) (pa_cons pe_int (pa_cons (pe_callB call_lenA (by rfl) T.n_len (by decide +kernel) (pa_cons (pe_slice sl_list (pv 0) po_none (po_some pe_int)) pa_nil)) pa_nil))) pa_nil)) (pg_name (i := 1) sc_law.nd rfl (Or.inl rfl)) (pss_cons (ps_set (i := 2) sc_law.nd rfl (Or.inl rfl) (pe_call (ok_law_purse T) (hr.mono (by decide)) (by rfl) T.m__law_purse T.F_law_purse.kp (b_law_purse T) .nil pass0 (pa_cons (pv 0) (pa_cons (pv 1) pa_nil))))
      (pss_cons (ps_set (i := 3) sc_law.nd rfl (Or.inl rfl) (pe_call (ok_law_chain T) (hr.mono (by decide)) (by rfl) T.m__law_chain T.F_law_chain.kp (b_law_chain T) .nil pass0 (pa_cons (pv 2) (pa_cons (pe_op op_add pe_int (pe_call (ok_law_draw T) (hr.mono (by decide)) (by rfl) T.m__law_draw T.F_law_draw.kp (b_law_draw T) .nil pass0 (pa_cons (pv 2) (pa_cons pe_int pa_nil)))) (pa_cons (pe_ix ix_list (pe_lst (pa_cons pe_int (pa_cons pe_int (pa_cons (pe_op op_powW pe_int pe_int) pa_nil)))) (pe_call (ok_law_draw T) (hr.mono (by decide)) (by rfl) T.m__law_draw T.F_law_draw.kp (b_law_draw T) .nil pass0 (pa_cons (pv 2) (pa_cons pe_int pa_nil))) (fun _ _ => rfl)) pa_nil)))))
      (pss_one (ps_if (pt_val (pe_call (ok_law_chained T) (hr.mono (by decide)) (by rfl) T.m__law_chained T.F_law_chained.kp (b_law_chained T) .nil pass0 (pa_cons (pv 3) pa_nil))) (pss_cons (ps_set (i := 3) sc_law.nd rfl (Or.inl rfl) (pe_call (ok_law_shuffled T) (hr.mono (by decide)) (by rfl) T.m__law_shuffled T.F_law_shuffled.kp (b_law_shuffled T) .nil pass0 (pa_cons (pv 2) (pa_cons (pv 3) pa_nil))))
      (pss_cons (ps_set (i := 4) sc_law.nd rfl (Or.inr rfl) (pe_make T.k_Plain (ok_Plain___init T) (hr.mono (by decide)) (by rfl) T.m_Plain (b_Plain___init T) .nil pass0 (pa_cons (pv 3) pa_nil)))
      (pss_one (ps_for PassesOwn.never rfl (pi_tup (pe_tup (pa_cons pe_int (pa_cons pe_int (pa_cons pe_int (pa_cons pe_int pa_nil)))))) (pg_name (i := 5) sc_law.nd rfl (Or.inl rfl)) (pss_cons (ps_set (i := 6) sc_law.nd rfl (Or.inl rfl) (pe_disp (pps_cons pe_str (pe_un un_neg pe_int) pps_nil) (by rfl) (by rfl) (fun z => by cases z) (by decide)))
      (pss_cons (ps_expr (pe_bm PySem.F.plainAttrs_dict PySem.F.slot_dict_update PySem.F.type_dict_update mtd_update (pv 6) (pa_cons (pe_call (ok_law_sizes T) (hr.mono (by decide)) (by rfl) T.m__law_sizes T.F_law_sizes.kp (b_law_sizes T) .nil pass0 (pa_cons (pv 2) (pa_cons (pv 3) (pa_cons (pv 5) pa_nil)))) pa_nil)))
      (pss_cons (ps_dput (hu_of hr) (pv 6) pe_str (pe_op op_sub pe_int (pe_call (ok_law_draw T) (hr.mono (by decide)) (by rfl) T.m__law_draw T.F_law_draw.kp (b_law_draw T) .nil pass0 (pa_cons (pv 2) (pa_cons pe_int pa_nil)))) rfl)
      (pss_cons (ps_dput (hu_of hr) (pv 6) (pe_ix ix_tup (pe_ix ix_list (pv 3) pe_int (fun _ _ => rfl)) pe_int (fun _ _ => rfl)) (pe_un un_neg pe_int) rfl)
      (pss_cons (ps_if (pt_not (pt_val (pe_callG (ok_law_right T TB) gd (hr.mono (by decide)) (by rfl) T.m__law_right T.F_law_right.kp (b_law_right T) .nil pass0 (pa_cons (pv 2) (pa_cons (pv 4) (pa_cons (pv 3) (pa_cons (pv 6) pa_nil))))))) (pss_one (ps_ret pe_bl)) pss_nil)
      (pss_cons (ps_for PassesOwn.never rfl (pi_list (pe_call (ok_law_used T) (hr.mono (by decide)) (by rfl) T.m__law_used T.F_law_used.kp (b_law_used T) .nil pass0 (pa_cons (pv 3) pa_nil))) (pg_name (i := 7) sc_law.nd rfl (Or.inl rfl)) (pss_one (ps_dput (hu_of hr) (pv 6) (pv 7) (pe_op op_add (pe_dget (hu_of hr) (pv 6) (pv 7) (fun _ _ => rfl)) pe_int) rfl)))
      (pss_one (ps_if (pt_not (pt_val (pe_callG (ok_law_right T TB) gd (hr.mono (by decide)) (by rfl) T.m__law_right T.F_law_right.kp (b_law_right T) .nil pass0 (pa_cons (pv 2) (pa_cons (pv 4) (pa_cons (pv 3) (pa_cons (pv 6) pa_nil))))))) (pss_one (ps_ret pe_bl)) pss_nil)))))))))))) pss_nil)))))
      (pss_cons (ps_set (i := 4) sc_law.nd rfl (Or.inr rfl) (pe_make T.k_Plain (ok_Plain___init T) (hr.mono (by decide)) (by rfl) T.m_Plain (b_Plain___init T) .nil pass0 (pa_cons (pe_lst (pa_cons (pe_tup (pa_cons pe_str (pa_cons (pe_lst (pa_cons pe_str pa_nil)) (pa_cons (pe_lst (pa_cons pe_str pa_nil)) pa_nil)))) (pa_cons (pe_tup (pa_cons pe_str (pa_cons (pe_lst (pa_cons pe_str pa_nil)) (pa_cons (pe_lst pa_nil) pa_nil)))) pa_nil))) pa_nil)))
      (pss_one (ps_ret (pe_cmpR (op_eqX hr.units) (pe_lc (own := [("_law_spot_here", 8)]) (g := (gName 8)) (tt := tYes) (te := tCall (sp_cell_of T) [] E0 (tCons (tVar 4) (tCons (tDisp ((tC (.str "m"), tC (.int 2)) :: (tC (.str "n"), tC (.int 3)) :: [])) (tCons (tVar 8) (tNil))))) rfl sc_law.nd (pi_range1 (by rfl) T.n_range (pa_cons pe_int pa_nil)) (blkOk_by (own := [("_law_spot_here", 8)]) (N := ["_law_script", "_law_cell_here", "_law_purse_here", "_law_rows", "_law_table", "_law_most", "_law_sizes_here", "_law_one", "_law_spot_here"]) (sc := defScope s_law) (by decide +kernel)) (fun _ _ _ _ _ => (pg_name (i := 8) sc_law.nd rfl (Or.inl rfl))) (fun _ _ _ _ _ => pts_nil) (fun _ _ _ _ _ => (pe_call (ok_cell_of T) (hr.mono (by decide)) (by rfl) T.m_cell_of T.F_cell_of.kp (b_cell_of T) .nil pass0 (pa_cons (pv 4) (pa_cons (pe_disp (pps_cons pe_str pe_int (pps_cons pe_str pe_int pps_nil)) (by rfl) (by rfl) (fun z => by cases z) (by decide)) (pa_cons (pv 8) pa_nil)))))) (pe_lst (pa_cons (pe_lst (pa_cons pe_int (pa_cons pe_int pa_nil))) (pa_cons (pe_lst (pa_cons pe_int (pa_cons pe_int pa_nil))) (pa_cons (pe_lst (pa_cons pe_int (pa_cons pe_int pa_nil))) (pa_cons (pe_lst (pa_cons pe_int (pa_cons pe_int pa_nil))) (pa_cons (pe_lst (pa_cons pe_int (pa_cons pe_int pa_nil))) (pa_cons (pe_lst (pa_cons pe_int (pa_cons pe_int pa_nil))) (pa_cons pe_non pa_nil)))))))) (nomark _)))))), rd_law T vs H Q E h⟩
end
end CP

namespace CP
open PySem L2
theorem dfl1 {K : PySem.W.Frag} {T : Addr} {oc : Value} {od : Option Addr} {its : Array Value} {n : Nat} {sl : Array (Option Value)} {dvs : List V} (hd : dvs ≠ []) (hl : K.lookup T = some ⟨oc, od, .seq its n, sl⟩) (hr : _root_.He.relAll dvs its.toList = true) : DflV K (.ref T) dvs := .inr ⟨hd, T, _, its.toList, n, rfl, hl, by simp, _root_.He.relAll_ok hr⟩
theorem all_mk {w : World} {l : PySem.W.OpenLaw} {K : PySem.W.Frag} {h : Heap} {mg : Str → Option Value} {fa : Addr} (X : K.In h) (G : h.Ns mainGlobals mg) (hfa : mg "law" = some (.ref fa))
    {fis_whole : Addr} {odis_whole anis_whole : Option Addr} {slis_whole : Array (Option Value)} {ocis_whole kVis_whole dcis_whole pmis_whole cdis_whole ctis_whole : Value}
    {fis_count : Addr} {odis_count anis_count : Option Addr} {slis_count : Array (Option Value)} {ocis_count kVis_count dcis_count pmis_count cdis_count ctis_count : Value}
    {fis_letter : Addr} {odis_letter anis_letter : Option Addr} {slis_letter : Array (Option Value)} {ocis_letter kVis_letter dcis_letter pmis_letter cdis_letter ctis_letter : Value}
    {fare_values : Addr} {odare_values anare_values : Option Addr} {slare_values : Array (Option Value)} {ocare_values kVare_values dcare_values pmare_values cdare_values ctare_values : Value}
    {fcheck_sizes : Addr} {odcheck_sizes ancheck_sizes : Option Addr} {slcheck_sizes : Array (Option Value)} {occheck_sizes kVcheck_sizes dccheck_sizes pmcheck_sizes cdcheck_sizes ctcheck_sizes : Value}
    {fare_letters : Addr} {odare_letters anare_letters : Option Addr} {slare_letters : Array (Option Value)} {ocare_letters kVare_letters dcare_letters pmare_letters cdare_letters ctare_letters : Value}
    {fare_named : Addr} {odare_named anare_named : Option Addr} {slare_named : Array (Option Value)} {ocare_named kVare_named dcare_named pmare_named cdare_named ctare_named : Value}
    {fare_sides : Addr} {odare_sides anare_sides : Option Addr} {slare_sides : Array (Option Value)} {ocare_sides kVare_sides dcare_sides pmare_sides cdare_sides ctare_sides : Value}
    {fvalued : Addr} {odvalued anvalued : Option Addr} {slvalued : Array (Option Value)} {ocvalued kVvalued dcvalued pmvalued cdvalued ctvalued : Value}
    {frest_of : Addr} {odrest_of anrest_of : Option Addr} {slrest_of : Array (Option Value)} {ocrest_of kVrest_of dcrest_of pmrest_of cdrest_of ctrest_of : Value}
    {fPlain___init : Addr} {odPlain___init anPlain___init : Option Addr} {slPlain___init : Array (Option Value)} {ocPlain___init kVPlain___init dcPlain___init pmPlain___init cdPlain___init ctPlain___init : Value}
    {fPlain_sizes : Addr} {odPlain_sizes anPlain_sizes : Option Addr} {slPlain_sizes : Array (Option Value)} {ocPlain_sizes kVPlain_sizes dcPlain_sizes pmPlain_sizes cdPlain_sizes ctPlain_sizes : Value}
    {fPlain___eq : Addr} {odPlain___eq anPlain___eq : Option Addr} {slPlain___eq : Array (Option Value)} {ocPlain___eq kVPlain___eq dcPlain___eq pmPlain___eq cdPlain___eq ctPlain___eq : Value}
    {fcheck_table : Addr} {odcheck_table ancheck_table : Option Addr} {slcheck_table : Array (Option Value)} {occheck_table kVcheck_table dccheck_table pmcheck_table cdcheck_table ctcheck_table : Value}
    {fis_ahead : Addr} {odis_ahead anis_ahead : Option Addr} {slis_ahead : Array (Option Value)} {ocis_ahead kVis_ahead dcis_ahead pmis_ahead cdis_ahead ctis_ahead : Value}
    {fordered : Addr} {odordered anordered : Option Addr} {slordered : Array (Option Value)} {ocordered kVordered dcordered pmordered cdordered ctordered : Value}
    {fcheck_own : Addr} {odcheck_own ancheck_own : Option Addr} {slcheck_own : Array (Option Value)} {occheck_own kVcheck_own dccheck_own pmcheck_own cdcheck_own ctcheck_own : Value}
    {ffound_at : Addr} {odfound_at anfound_at : Option Addr} {slfound_at : Array (Option Value)} {ocfound_at kVfound_at dcfound_at pmfound_at cdfound_at ctfound_at : Value}
    {fcell_of : Addr} {odcell_of ancell_of : Option Addr} {slcell_of : Array (Option Value)} {occell_of kVcell_of dccell_of pmcell_of cdcell_of ctcell_of : Value}
    {flaw_purse : Addr} {odlaw_purse anlaw_purse : Option Addr} {sllaw_purse : Array (Option Value)} {oclaw_purse kVlaw_purse dclaw_purse pmlaw_purse cdlaw_purse ctlaw_purse : Value}
    {flaw_mixed : Addr} {odlaw_mixed anlaw_mixed : Option Addr} {sllaw_mixed : Array (Option Value)} {oclaw_mixed kVlaw_mixed dclaw_mixed pmlaw_mixed cdlaw_mixed ctlaw_mixed : Value}
    {flaw_draw : Addr} {odlaw_draw anlaw_draw : Option Addr} {sllaw_draw : Array (Option Value)} {oclaw_draw kVlaw_draw dclaw_draw pmlaw_draw cdlaw_draw ctlaw_draw : Value}
    {flaw_one_of : Addr} {odlaw_one_of anlaw_one_of : Option Addr} {sllaw_one_of : Array (Option Value)} {oclaw_one_of kVlaw_one_of dclaw_one_of pmlaw_one_of cdlaw_one_of ctlaw_one_of : Value}
    {flaw_shuffled : Addr} {odlaw_shuffled anlaw_shuffled : Option Addr} {sllaw_shuffled : Array (Option Value)} {oclaw_shuffled kVlaw_shuffled dclaw_shuffled pmlaw_shuffled cdlaw_shuffled ctlaw_shuffled : Value}
    {flaw_letters : Addr} {odlaw_letters anlaw_letters : Option Addr} {sllaw_letters : Array (Option Value)} {oclaw_letters kVlaw_letters dclaw_letters pmlaw_letters cdlaw_letters ctlaw_letters : Value}
    {flaw_names : Addr} {odlaw_names anlaw_names : Option Addr} {sllaw_names : Array (Option Value)} {oclaw_names kVlaw_names dclaw_names pmlaw_names cdlaw_names ctlaw_names : Value}
    {flaw_chain : Addr} {odlaw_chain anlaw_chain : Option Addr} {sllaw_chain : Array (Option Value)} {oclaw_chain kVlaw_chain dclaw_chain pmlaw_chain cdlaw_chain ctlaw_chain : Value}
    {flaw_times : Addr} {odlaw_times anlaw_times : Option Addr} {sllaw_times : Array (Option Value)} {oclaw_times kVlaw_times dclaw_times pmlaw_times cdlaw_times ctlaw_times : Value}
    {flaw_used : Addr} {odlaw_used anlaw_used : Option Addr} {sllaw_used : Array (Option Value)} {oclaw_used kVlaw_used dclaw_used pmlaw_used cdlaw_used ctlaw_used : Value}
    {flaw_sizes : Addr} {odlaw_sizes anlaw_sizes : Option Addr} {sllaw_sizes : Array (Option Value)} {oclaw_sizes kVlaw_sizes dclaw_sizes pmlaw_sizes cdlaw_sizes ctlaw_sizes : Value}
    {flaw_spot : Addr} {odlaw_spot anlaw_spot : Option Addr} {sllaw_spot : Array (Option Value)} {oclaw_spot kVlaw_spot dclaw_spot pmlaw_spot cdlaw_spot ctlaw_spot : Value}
    {flaw_fits : Addr} {odlaw_fits anlaw_fits : Option Addr} {sllaw_fits : Array (Option Value)} {oclaw_fits kVlaw_fits dclaw_fits pmlaw_fits cdlaw_fits ctlaw_fits : Value}
    {flaw_chained : Addr} {odlaw_chained anlaw_chained : Option Addr} {sllaw_chained : Array (Option Value)} {oclaw_chained kVlaw_chained dclaw_chained pmlaw_chained cdlaw_chained ctlaw_chained : Value}
    {flaw_cell : Addr} {odlaw_cell anlaw_cell : Option Addr} {sllaw_cell : Array (Option Value)} {oclaw_cell kVlaw_cell dclaw_cell pmlaw_cell cdlaw_cell ctlaw_cell : Value}
    {flaw_right : Addr} {odlaw_right anlaw_right : Option Addr} {sllaw_right : Array (Option Value)} {oclaw_right kVlaw_right dclaw_right pmlaw_right cdlaw_right ctlaw_right : Value}
    {flaw : Addr} {odlaw anlaw : Option Addr} {sllaw : Array (Option Value)} {oclaw kVlaw dclaw pmlaw cdlaw ctlaw : Value}
    {CPlain : Addr}
    {tkSMALL : Tok}
    {tc tP : Addr}
    (ais_whole : PySem.W.nsIn K mainGlobals "is_whole" = some (some (.ref fis_whole)))
    (lis_whole : K.lookup fis_whole = some ⟨ocis_whole, odis_whole, .func (PySem.W.fnOf "is_whole" "is_whole" (defArgs s_is_whole) (defBody s_is_whole) (defScope s_is_whole) .none kVis_whole dcis_whole pmis_whole anis_whole cdis_whole ctis_whole), slis_whole⟩)
    (cis_whole : PySem.W.codeIn K cdis_whole "is_whole" = true) (kis_whole : PySem.W.keepIn K (.ref fis_whole) = true)
    (ais_count : PySem.W.nsIn K mainGlobals "is_count" = some (some (.ref fis_count)))
    (lis_count : K.lookup fis_count = some ⟨ocis_count, odis_count, .func (PySem.W.fnOf "is_count" "is_count" (defArgs s_is_count) (defBody s_is_count) (defScope s_is_count) .none kVis_count dcis_count pmis_count anis_count cdis_count ctis_count), slis_count⟩)
    (cis_count : PySem.W.codeIn K cdis_count "is_count" = true) (kis_count : PySem.W.keepIn K (.ref fis_count) = true)
    (ais_letter : PySem.W.nsIn K mainGlobals "is_letter" = some (some (.ref fis_letter)))
    (lis_letter : K.lookup fis_letter = some ⟨ocis_letter, odis_letter, .func (PySem.W.fnOf "is_letter" "is_letter" (defArgs s_is_letter) (defBody s_is_letter) (defScope s_is_letter) .none kVis_letter dcis_letter pmis_letter anis_letter cdis_letter ctis_letter), slis_letter⟩)
    (cis_letter : PySem.W.codeIn K cdis_letter "is_letter" = true) (kis_letter : PySem.W.keepIn K (.ref fis_letter) = true)
    (aare_values : PySem.W.nsIn K mainGlobals "are_values" = some (some (.ref fare_values)))
    (lare_values : K.lookup fare_values = some ⟨ocare_values, odare_values, .func (PySem.W.fnOf "are_values" "are_values" (defArgs s_are_values) (defBody s_are_values) (defScope s_are_values) .none kVare_values dcare_values pmare_values anare_values cdare_values ctare_values), slare_values⟩)
    (care_values : PySem.W.codeIn K cdare_values "are_values" = true) (kare_values : PySem.W.keepIn K (.ref fare_values) = true)
    (acheck_sizes : PySem.W.nsIn K mainGlobals "check_sizes" = some (some (.ref fcheck_sizes)))
    (lcheck_sizes : K.lookup fcheck_sizes = some ⟨occheck_sizes, odcheck_sizes, .func (PySem.W.fnOf "check_sizes" "check_sizes" (defArgs s_check_sizes) (defBody s_check_sizes) (defScope s_check_sizes) .none kVcheck_sizes dccheck_sizes pmcheck_sizes ancheck_sizes cdcheck_sizes ctcheck_sizes), slcheck_sizes⟩)
    (ccheck_sizes : PySem.W.codeIn K cdcheck_sizes "check_sizes" = true) (kcheck_sizes : PySem.W.keepIn K (.ref fcheck_sizes) = true)
    (aare_letters : PySem.W.nsIn K mainGlobals "are_letters" = some (some (.ref fare_letters)))
    (lare_letters : K.lookup fare_letters = some ⟨ocare_letters, odare_letters, .func (PySem.W.fnOf "are_letters" "are_letters" (defArgs s_are_letters) (defBody s_are_letters) (defScope s_are_letters) .none kVare_letters dcare_letters pmare_letters anare_letters cdare_letters ctare_letters), slare_letters⟩)
    (care_letters : PySem.W.codeIn K cdare_letters "are_letters" = true) (kare_letters : PySem.W.keepIn K (.ref fare_letters) = true)
    (aare_named : PySem.W.nsIn K mainGlobals "are_named" = some (some (.ref fare_named)))
    (lare_named : K.lookup fare_named = some ⟨ocare_named, odare_named, .func (PySem.W.fnOf "are_named" "are_named" (defArgs s_are_named) (defBody s_are_named) (defScope s_are_named) .none kVare_named dcare_named pmare_named anare_named cdare_named ctare_named), slare_named⟩)
    (care_named : PySem.W.codeIn K cdare_named "are_named" = true) (kare_named : PySem.W.keepIn K (.ref fare_named) = true)
    (aare_sides : PySem.W.nsIn K mainGlobals "are_sides" = some (some (.ref fare_sides)))
    (lare_sides : K.lookup fare_sides = some ⟨ocare_sides, odare_sides, .func (PySem.W.fnOf "are_sides" "are_sides" (defArgs s_are_sides) (defBody s_are_sides) (defScope s_are_sides) .none kVare_sides dcare_sides pmare_sides anare_sides cdare_sides ctare_sides), slare_sides⟩)
    (care_sides : PySem.W.codeIn K cdare_sides "are_sides" = true) (kare_sides : PySem.W.keepIn K (.ref fare_sides) = true)
    (avalued : PySem.W.nsIn K mainGlobals "valued" = some (some (.ref fvalued)))
    (lvalued : K.lookup fvalued = some ⟨ocvalued, odvalued, .func (PySem.W.fnOf "valued" "valued" (defArgs s_valued) (defBody s_valued) (defScope s_valued) .none kVvalued dcvalued pmvalued anvalued cdvalued ctvalued), slvalued⟩)
    (cvalued : PySem.W.codeIn K cdvalued "valued" = true) (kvalued : PySem.W.keepIn K (.ref fvalued) = true)
    (arest_of : PySem.W.nsIn K mainGlobals "rest_of" = some (some (.ref frest_of)))
    (lrest_of : K.lookup frest_of = some ⟨ocrest_of, odrest_of, .func (PySem.W.fnOf "rest_of" "rest_of" (defArgs s_rest_of) (defBody s_rest_of) (defScope s_rest_of) .none kVrest_of dcrest_of pmrest_of anrest_of cdrest_of ctrest_of), slrest_of⟩)
    (crest_of : PySem.W.codeIn K cdrest_of "rest_of" = true) (krest_of : PySem.W.keepIn K (.ref frest_of) = true)
    (aPlain___init : PySem.W.findIn K (.ref CPlain) "__init__" = some (some (.ref fPlain___init)))
    (lPlain___init : K.lookup fPlain___init = some ⟨ocPlain___init, odPlain___init, .func (PySem.W.fnOf "__init__" "Plain.__init__" (defArgs s_Plain___init) (defBody s_Plain___init) (defScope s_Plain___init) .none kVPlain___init dcPlain___init pmPlain___init anPlain___init cdPlain___init ctPlain___init), slPlain___init⟩)
    (cPlain___init : PySem.W.codeIn K cdPlain___init "Plain.__init__" = true) (kPlain___init : PySem.W.keepIn K (.ref fPlain___init) = true)
    (aPlain_sizes : PySem.W.findIn K (.ref CPlain) "sizes" = some (some (.ref fPlain_sizes)))
    (lPlain_sizes : K.lookup fPlain_sizes = some ⟨ocPlain_sizes, odPlain_sizes, .func (PySem.W.fnOf "sizes" "Plain.sizes" (defArgs s_Plain_sizes) (defBody s_Plain_sizes) (defScope s_Plain_sizes) .none kVPlain_sizes dcPlain_sizes pmPlain_sizes anPlain_sizes cdPlain_sizes ctPlain_sizes), slPlain_sizes⟩)
    (cPlain_sizes : PySem.W.codeIn K cdPlain_sizes "Plain.sizes" = true) (kPlain_sizes : PySem.W.keepIn K (.ref fPlain_sizes) = true)
    (aPlain___eq : PySem.W.findIn K (.ref CPlain) "__eq__" = some (some (.ref fPlain___eq)))
    (lPlain___eq : K.lookup fPlain___eq = some ⟨ocPlain___eq, odPlain___eq, .func (PySem.W.fnOf "__eq__" "Plain.__eq__" (defArgs s_Plain___eq) (defBody s_Plain___eq) (defScope s_Plain___eq) .none kVPlain___eq dcPlain___eq pmPlain___eq anPlain___eq cdPlain___eq ctPlain___eq), slPlain___eq⟩)
    (cPlain___eq : PySem.W.codeIn K cdPlain___eq "Plain.__eq__" = true) (kPlain___eq : PySem.W.keepIn K (.ref fPlain___eq) = true)
    (acheck_table : PySem.W.nsIn K mainGlobals "check_table" = some (some (.ref fcheck_table)))
    (lcheck_table : K.lookup fcheck_table = some ⟨occheck_table, odcheck_table, .func (PySem.W.fnOf "check_table" "check_table" (defArgs s_check_table) (defBody s_check_table) (defScope s_check_table) .none kVcheck_table dccheck_table pmcheck_table ancheck_table cdcheck_table ctcheck_table), slcheck_table⟩)
    (ccheck_table : PySem.W.codeIn K cdcheck_table "check_table" = true) (kcheck_table : PySem.W.keepIn K (.ref fcheck_table) = true)
    (ais_ahead : PySem.W.nsIn K mainGlobals "is_ahead" = some (some (.ref fis_ahead)))
    (lis_ahead : K.lookup fis_ahead = some ⟨ocis_ahead, odis_ahead, .func (PySem.W.fnOf "is_ahead" "is_ahead" (defArgs s_is_ahead) (defBody s_is_ahead) (defScope s_is_ahead) .none kVis_ahead dcis_ahead pmis_ahead anis_ahead cdis_ahead ctis_ahead), slis_ahead⟩)
    (cis_ahead : PySem.W.codeIn K cdis_ahead "is_ahead" = true) (kis_ahead : PySem.W.keepIn K (.ref fis_ahead) = true)
    (aordered : PySem.W.nsIn K mainGlobals "ordered" = some (some (.ref fordered)))
    (lordered : K.lookup fordered = some ⟨ocordered, odordered, .func (PySem.W.fnOf "ordered" "ordered" (defArgs s_ordered) (defBody s_ordered) (defScope s_ordered) .none kVordered dcordered pmordered anordered cdordered ctordered), slordered⟩)
    (cordered : PySem.W.codeIn K cdordered "ordered" = true) (kordered : PySem.W.keepIn K (.ref fordered) = true)
    (acheck_own : PySem.W.nsIn K mainGlobals "check_own" = some (some (.ref fcheck_own)))
    (lcheck_own : K.lookup fcheck_own = some ⟨occheck_own, odcheck_own, .func (PySem.W.fnOf "check_own" "check_own" (defArgs s_check_own) (defBody s_check_own) (defScope s_check_own) .none kVcheck_own dccheck_own pmcheck_own ancheck_own cdcheck_own ctcheck_own), slcheck_own⟩)
    (ccheck_own : PySem.W.codeIn K cdcheck_own "check_own" = true) (kcheck_own : PySem.W.keepIn K (.ref fcheck_own) = true)
    (afound_at : PySem.W.nsIn K mainGlobals "found_at" = some (some (.ref ffound_at)))
    (lfound_at : K.lookup ffound_at = some ⟨ocfound_at, odfound_at, .func (PySem.W.fnOf "found_at" "found_at" (defArgs s_found_at) (defBody s_found_at) (defScope s_found_at) .none kVfound_at dcfound_at pmfound_at anfound_at cdfound_at ctfound_at), slfound_at⟩)
    (cfound_at : PySem.W.codeIn K cdfound_at "found_at" = true) (kfound_at : PySem.W.keepIn K (.ref ffound_at) = true)
    (acell_of : PySem.W.nsIn K mainGlobals "cell_of" = some (some (.ref fcell_of)))
    (lcell_of : K.lookup fcell_of = some ⟨occell_of, odcell_of, .func (PySem.W.fnOf "cell_of" "cell_of" (defArgs s_cell_of) (defBody s_cell_of) (defScope s_cell_of) .none kVcell_of dccell_of pmcell_of ancell_of cdcell_of ctcell_of), slcell_of⟩)
    (ccell_of : PySem.W.codeIn K cdcell_of "cell_of" = true) (kcell_of : PySem.W.keepIn K (.ref fcell_of) = true)
    (alaw_purse : PySem.W.nsIn K mainGlobals "_law_purse" = some (some (.ref flaw_purse)))
    (llaw_purse : K.lookup flaw_purse = some ⟨oclaw_purse, odlaw_purse, .func (PySem.W.fnOf "_law_purse" "_law_purse" (defArgs s_law_purse) (defBody s_law_purse) (defScope s_law_purse) .none kVlaw_purse dclaw_purse pmlaw_purse anlaw_purse cdlaw_purse ctlaw_purse), sllaw_purse⟩)
    (claw_purse : PySem.W.codeIn K cdlaw_purse "_law_purse" = true) (klaw_purse : PySem.W.keepIn K (.ref flaw_purse) = true)
    (alaw_mixed : PySem.W.nsIn K mainGlobals "_law_mixed" = some (some (.ref flaw_mixed)))
    (llaw_mixed : K.lookup flaw_mixed = some ⟨oclaw_mixed, odlaw_mixed, .func (PySem.W.fnOf "_law_mixed" "_law_mixed" (defArgs s_law_mixed) (defBody s_law_mixed) (defScope s_law_mixed) .none kVlaw_mixed dclaw_mixed pmlaw_mixed anlaw_mixed cdlaw_mixed ctlaw_mixed), sllaw_mixed⟩)
    (claw_mixed : PySem.W.codeIn K cdlaw_mixed "_law_mixed" = true) (klaw_mixed : PySem.W.keepIn K (.ref flaw_mixed) = true)
    (alaw_draw : PySem.W.nsIn K mainGlobals "_law_draw" = some (some (.ref flaw_draw)))
    (llaw_draw : K.lookup flaw_draw = some ⟨oclaw_draw, odlaw_draw, .func (PySem.W.fnOf "_law_draw" "_law_draw" (defArgs s_law_draw) (defBody s_law_draw) (defScope s_law_draw) .none kVlaw_draw dclaw_draw pmlaw_draw anlaw_draw cdlaw_draw ctlaw_draw), sllaw_draw⟩)
    (claw_draw : PySem.W.codeIn K cdlaw_draw "_law_draw" = true) (klaw_draw : PySem.W.keepIn K (.ref flaw_draw) = true)
    (alaw_one_of : PySem.W.nsIn K mainGlobals "_law_one_of" = some (some (.ref flaw_one_of)))
    (llaw_one_of : K.lookup flaw_one_of = some ⟨oclaw_one_of, odlaw_one_of, .func (PySem.W.fnOf "_law_one_of" "_law_one_of" (defArgs s_law_one_of) (defBody s_law_one_of) (defScope s_law_one_of) .none kVlaw_one_of dclaw_one_of pmlaw_one_of anlaw_one_of cdlaw_one_of ctlaw_one_of), sllaw_one_of⟩)
    (claw_one_of : PySem.W.codeIn K cdlaw_one_of "_law_one_of" = true) (klaw_one_of : PySem.W.keepIn K (.ref flaw_one_of) = true)
    (alaw_shuffled : PySem.W.nsIn K mainGlobals "_law_shuffled" = some (some (.ref flaw_shuffled)))
    (llaw_shuffled : K.lookup flaw_shuffled = some ⟨oclaw_shuffled, odlaw_shuffled, .func (PySem.W.fnOf "_law_shuffled" "_law_shuffled" (defArgs s_law_shuffled) (defBody s_law_shuffled) (defScope s_law_shuffled) .none kVlaw_shuffled dclaw_shuffled pmlaw_shuffled anlaw_shuffled cdlaw_shuffled ctlaw_shuffled), sllaw_shuffled⟩)
    (claw_shuffled : PySem.W.codeIn K cdlaw_shuffled "_law_shuffled" = true) (klaw_shuffled : PySem.W.keepIn K (.ref flaw_shuffled) = true)
    (alaw_letters : PySem.W.nsIn K mainGlobals "_law_letters" = some (some (.ref flaw_letters)))
    (llaw_letters : K.lookup flaw_letters = some ⟨oclaw_letters, odlaw_letters, .func (PySem.W.fnOf "_law_letters" "_law_letters" (defArgs s_law_letters) (defBody s_law_letters) (defScope s_law_letters) .none kVlaw_letters dclaw_letters pmlaw_letters anlaw_letters cdlaw_letters ctlaw_letters), sllaw_letters⟩)
    (claw_letters : PySem.W.codeIn K cdlaw_letters "_law_letters" = true) (klaw_letters : PySem.W.keepIn K (.ref flaw_letters) = true)
    (alaw_names : PySem.W.nsIn K mainGlobals "_law_names" = some (some (.ref flaw_names)))
    (llaw_names : K.lookup flaw_names = some ⟨oclaw_names, odlaw_names, .func (PySem.W.fnOf "_law_names" "_law_names" (defArgs s_law_names) (defBody s_law_names) (defScope s_law_names) .none kVlaw_names dclaw_names pmlaw_names anlaw_names cdlaw_names ctlaw_names), sllaw_names⟩)
    (claw_names : PySem.W.codeIn K cdlaw_names "_law_names" = true) (klaw_names : PySem.W.keepIn K (.ref flaw_names) = true)
    (alaw_chain : PySem.W.nsIn K mainGlobals "_law_chain" = some (some (.ref flaw_chain)))
    (llaw_chain : K.lookup flaw_chain = some ⟨oclaw_chain, odlaw_chain, .func (PySem.W.fnOf "_law_chain" "_law_chain" (defArgs s_law_chain) (defBody s_law_chain) (defScope s_law_chain) .none kVlaw_chain dclaw_chain pmlaw_chain anlaw_chain cdlaw_chain ctlaw_chain), sllaw_chain⟩)
    (claw_chain : PySem.W.codeIn K cdlaw_chain "_law_chain" = true) (klaw_chain : PySem.W.keepIn K (.ref flaw_chain) = true)
    (alaw_times : PySem.W.nsIn K mainGlobals "_law_times" = some (some (.ref flaw_times)))
    (llaw_times : K.lookup flaw_times = some ⟨oclaw_times, odlaw_times, .func (PySem.W.fnOf "_law_times" "_law_times" (defArgs s_law_times) (defBody s_law_times) (defScope s_law_times) .none kVlaw_times dclaw_times pmlaw_times anlaw_times cdlaw_times ctlaw_times), sllaw_times⟩)
    (claw_times : PySem.W.codeIn K cdlaw_times "_law_times" = true) (klaw_times : PySem.W.keepIn K (.ref flaw_times) = true)
    (alaw_used : PySem.W.nsIn K mainGlobals "_law_used" = some (some (.ref flaw_used)))
    (llaw_used : K.lookup flaw_used = some ⟨oclaw_used, odlaw_used, .func (PySem.W.fnOf "_law_used" "_law_used" (defArgs s_law_used) (defBody s_law_used) (defScope s_law_used) .none kVlaw_used dclaw_used pmlaw_used anlaw_used cdlaw_used ctlaw_used), sllaw_used⟩)
    (claw_used : PySem.W.codeIn K cdlaw_used "_law_used" = true) (klaw_used : PySem.W.keepIn K (.ref flaw_used) = true)
    (alaw_sizes : PySem.W.nsIn K mainGlobals "_law_sizes" = some (some (.ref flaw_sizes)))
    (llaw_sizes : K.lookup flaw_sizes = some ⟨oclaw_sizes, odlaw_sizes, .func (PySem.W.fnOf "_law_sizes" "_law_sizes" (defArgs s_law_sizes) (defBody s_law_sizes) (defScope s_law_sizes) .none kVlaw_sizes dclaw_sizes pmlaw_sizes anlaw_sizes cdlaw_sizes ctlaw_sizes), sllaw_sizes⟩)
    (claw_sizes : PySem.W.codeIn K cdlaw_sizes "_law_sizes" = true) (klaw_sizes : PySem.W.keepIn K (.ref flaw_sizes) = true)
    (alaw_spot : PySem.W.nsIn K mainGlobals "_law_spot" = some (some (.ref flaw_spot)))
    (llaw_spot : K.lookup flaw_spot = some ⟨oclaw_spot, odlaw_spot, .func (PySem.W.fnOf "_law_spot" "_law_spot" (defArgs s_law_spot) (defBody s_law_spot) (defScope s_law_spot) .none kVlaw_spot dclaw_spot pmlaw_spot anlaw_spot cdlaw_spot ctlaw_spot), sllaw_spot⟩)
    (claw_spot : PySem.W.codeIn K cdlaw_spot "_law_spot" = true) (klaw_spot : PySem.W.keepIn K (.ref flaw_spot) = true)
    (alaw_fits : PySem.W.nsIn K mainGlobals "_law_fits" = some (some (.ref flaw_fits)))
    (llaw_fits : K.lookup flaw_fits = some ⟨oclaw_fits, odlaw_fits, .func (PySem.W.fnOf "_law_fits" "_law_fits" (defArgs s_law_fits) (defBody s_law_fits) (defScope s_law_fits) .none kVlaw_fits dclaw_fits pmlaw_fits anlaw_fits cdlaw_fits ctlaw_fits), sllaw_fits⟩)
    (claw_fits : PySem.W.codeIn K cdlaw_fits "_law_fits" = true) (klaw_fits : PySem.W.keepIn K (.ref flaw_fits) = true)
    (alaw_chained : PySem.W.nsIn K mainGlobals "_law_chained" = some (some (.ref flaw_chained)))
    (llaw_chained : K.lookup flaw_chained = some ⟨oclaw_chained, odlaw_chained, .func (PySem.W.fnOf "_law_chained" "_law_chained" (defArgs s_law_chained) (defBody s_law_chained) (defScope s_law_chained) .none kVlaw_chained dclaw_chained pmlaw_chained anlaw_chained cdlaw_chained ctlaw_chained), sllaw_chained⟩)
    (claw_chained : PySem.W.codeIn K cdlaw_chained "_law_chained" = true) (klaw_chained : PySem.W.keepIn K (.ref flaw_chained) = true)
    (alaw_cell : PySem.W.nsIn K mainGlobals "_law_cell" = some (some (.ref flaw_cell)))
    (llaw_cell : K.lookup flaw_cell = some ⟨oclaw_cell, odlaw_cell, .func (PySem.W.fnOf "_law_cell" "_law_cell" (defArgs s_law_cell) (defBody s_law_cell) (defScope s_law_cell) .none kVlaw_cell dclaw_cell pmlaw_cell anlaw_cell cdlaw_cell ctlaw_cell), sllaw_cell⟩)
    (claw_cell : PySem.W.codeIn K cdlaw_cell "_law_cell" = true) (klaw_cell : PySem.W.keepIn K (.ref flaw_cell) = true)
    (alaw_right : PySem.W.nsIn K mainGlobals "_law_right" = some (some (.ref flaw_right)))
    (llaw_right : K.lookup flaw_right = some ⟨oclaw_right, odlaw_right, .func (PySem.W.fnOf "_law_right" "_law_right" (defArgs s_law_right) (defBody s_law_right) (defScope s_law_right) .none kVlaw_right dclaw_right pmlaw_right anlaw_right cdlaw_right ctlaw_right), sllaw_right⟩)
    (claw_right : PySem.W.codeIn K cdlaw_right "_law_right" = true) (klaw_right : PySem.W.keepIn K (.ref flaw_right) = true)
    (alaw : PySem.W.nsIn K mainGlobals "law" = some (some (.ref flaw)))
    (llaw : K.lookup flaw = some ⟨oclaw, odlaw, .func (PySem.W.fnOf "law" "law" (defArgs s_law) (defBody s_law) (defScope s_law) .none kVlaw dclaw pmlaw anlaw cdlaw ctlaw), sllaw⟩)
    (claw : PySem.W.codeIn K cdlaw "law" = true) (klaw : PySem.W.keepIn K (.ref flaw) = true)
    (aCPlain : PySem.W.nsIn K mainGlobals "Plain" = some (some (.ref CPlain)))
    (pgPlain : PySem.W.plainGet K CPlain Str.empty = true)
    (hdPlain : PySem.W.hasDictIn K CPlain = true)
    (poPlain : PySem.W.plainOver K CPlain = true)
    (saPlain : PySem.W.findIn K (.ref CPlain) "__setattr__" = some (some (.builtin "object.__setattr__")))
    (caPlain : PySem.W.findIn K (.ref CPlain) "__class__" = some (some (.builtin "object.__class__")))
    (cbPlain : PySem.W.specialIn K (.builtin "object.__class__") "__get__" = some (some (.builtin "getset_descriptor.__get__")))
    (ccPlain : PySem.W.takesIn K (.builtin "object.__class__") = some true)
    (cdPlain : PySem.W.mroIn K CPlain (.type "object") = some true)
    (noPlainrow : PySem.W.findIn K (.ref CPlain) "row" = some none)
    (iPlain___init : PySem.W.isFn K (.ref fPlain___init) = true)
    (mkPlain : PySem.W.makesIn K CPlain = true)
    (kcPlain : PySem.W.keepIn K (.ref CPlain) = true)
    (iPlain_sizes : PySem.W.isFn K (.ref fPlain_sizes) = true)
    (iPlain___eq : PySem.W.isFn K (.ref fPlain___eq) = true)
    (nePlain : PySem.W.findIn K (.ref CPlain) "__ne__" = some (some (.builtin "object.__ne__")))
    (obPlain : PySem.W.subIn K (.ref CPlain) (.type "object") = some true)
    (nbool : PySem.W.nsIn K mainGlobals "bool" = some none)
    (ndict : PySem.W.nsIn K mainGlobals "dict" = some none)
    (nenumerate : PySem.W.nsIn K mainGlobals "enumerate" = some none)
    (nint : PySem.W.nsIn K mainGlobals "int" = some none)
    (nisinstance : PySem.W.nsIn K mainGlobals "isinstance" = some none)
    (nlen : PySem.W.nsIn K mainGlobals "len" = some none)
    (nlist : PySem.W.nsIn K mainGlobals "list" = some none)
    (nmax : PySem.W.nsIn K mainGlobals "max" = some none)
    (nmin : PySem.W.nsIn K mainGlobals "min" = some none)
    (nrange : PySem.W.nsIn K mainGlobals "range" = some none)
    (nrepr : PySem.W.nsIn K mainGlobals "repr" = some none)
    (nset : PySem.W.nsIn K mainGlobals "set" = some none)
    (nsorted : PySem.W.nsIn K mainGlobals "sorted" = some none)
    (nstr : PySem.W.nsIn K mainGlobals "str" = some none)
    (nsum : PySem.W.nsIn K mainGlobals "sum" = some none)
    (ntuple : PySem.W.nsIn K mainGlobals "tuple" = some none)
    (aKSMALL : PySem.W.nsIn K mainGlobals "SMALL" = some (some (.str "abcdefghijklmnopqrstuvwxyz" tkSMALL)))
    (hTab : PySem.W.tabIn K "_law_cell" = some (tc, tP)) (nTab : K.lookup tP = none)
    : ∃ (tc tP : Addr) (fd : FuncData), PySem.W.tabIn K "_law_cell" = some (tc, tP) ∧ (K).lookup tP = none ∧ (∀ (s : Shared) (v : Value), BindsTo s fd ⟨[v], []⟩ [("_law_script", v)]) ∧ ∀ base : Heap, (K).In base → base.Ns mainGlobals mg → LamX.TabB base mg tc tP → FnG l.prog w (K) mg base CX0 12 fa fd ["_law_script"] (sp_top (K) tP) := by
  have e := hfa.symm.trans (PySem.W.mg_of X G alaw)
  cases e
  let T : Txt K mg := {
    a_is_whole := fis_whole, fd_is_whole := _,
    F_is_whole := fun_mk (st := s_is_whole) lis_whole cis_whole kis_whole,
    m_is_whole := PySem.W.mg_of X G ais_whole,
    a_is_count := fis_count, fd_is_count := _,
    F_is_count := fun_mk (st := s_is_count) lis_count cis_count kis_count,
    m_is_count := PySem.W.mg_of X G ais_count,
    a_is_letter := fis_letter, fd_is_letter := _,
    F_is_letter := fun_mk (st := s_is_letter) lis_letter cis_letter kis_letter,
    m_is_letter := PySem.W.mg_of X G ais_letter,
    a_are_values := fare_values, fd_are_values := _,
    F_are_values := fun_mk (st := s_are_values) lare_values care_values kare_values,
    m_are_values := PySem.W.mg_of X G aare_values,
    a_check_sizes := fcheck_sizes, fd_check_sizes := _,
    F_check_sizes := fun_mk (st := s_check_sizes) lcheck_sizes ccheck_sizes kcheck_sizes,
    m_check_sizes := PySem.W.mg_of X G acheck_sizes,
    a_are_letters := fare_letters, fd_are_letters := _,
    F_are_letters := fun_mk (st := s_are_letters) lare_letters care_letters kare_letters,
    m_are_letters := PySem.W.mg_of X G aare_letters,
    a_are_named := fare_named, fd_are_named := _,
    F_are_named := fun_mk (st := s_are_named) lare_named care_named kare_named,
    m_are_named := PySem.W.mg_of X G aare_named,
    a_are_sides := fare_sides, fd_are_sides := _,
    F_are_sides := fun_mk (st := s_are_sides) lare_sides care_sides kare_sides,
    m_are_sides := PySem.W.mg_of X G aare_sides,
    a_valued := fvalued, fd_valued := _,
    F_valued := fun_mk (st := s_valued) lvalued cvalued kvalued,
    m_valued := PySem.W.mg_of X G avalued,
    a_rest_of := frest_of, fd_rest_of := _,
    F_rest_of := fun_mk (st := s_rest_of) lrest_of crest_of krest_of,
    m_rest_of := PySem.W.mg_of X G arest_of,
    a_Plain___init := fPlain___init, fd_Plain___init := _,
    F_Plain___init := fun_mk (st := s_Plain___init) lPlain___init cPlain___init kPlain___init,
    a_Plain_sizes := fPlain_sizes, fd_Plain_sizes := _,
    F_Plain_sizes := fun_mk (st := s_Plain_sizes) lPlain_sizes cPlain_sizes kPlain_sizes,
    a_Plain___eq := fPlain___eq, fd_Plain___eq := _,
    F_Plain___eq := fun_mk (st := s_Plain___eq) lPlain___eq cPlain___eq kPlain___eq,
    a_check_table := fcheck_table, fd_check_table := _,
    F_check_table := fun_mk (st := s_check_table) lcheck_table ccheck_table kcheck_table,
    m_check_table := PySem.W.mg_of X G acheck_table,
    a_is_ahead := fis_ahead, fd_is_ahead := _,
    F_is_ahead := fun_mk (st := s_is_ahead) lis_ahead cis_ahead kis_ahead,
    m_is_ahead := PySem.W.mg_of X G ais_ahead,
    a_ordered := fordered, fd_ordered := _,
    F_ordered := fun_mk (st := s_ordered) lordered cordered kordered,
    m_ordered := PySem.W.mg_of X G aordered,
    a_check_own := fcheck_own, fd_check_own := _,
    F_check_own := fun_mk (st := s_check_own) lcheck_own ccheck_own kcheck_own,
    m_check_own := PySem.W.mg_of X G acheck_own,
    a_found_at := ffound_at, fd_found_at := _,
    F_found_at := fun_mk (st := s_found_at) lfound_at cfound_at kfound_at,
    m_found_at := PySem.W.mg_of X G afound_at,
    a_cell_of := fcell_of, fd_cell_of := _,
    F_cell_of := fun_mk (st := s_cell_of) lcell_of ccell_of kcell_of,
    m_cell_of := PySem.W.mg_of X G acell_of,
    a_law_purse := flaw_purse, fd_law_purse := _,
    F_law_purse := fun_mk (st := s_law_purse) llaw_purse claw_purse klaw_purse,
    m__law_purse := PySem.W.mg_of X G alaw_purse,
    a_law_mixed := flaw_mixed, fd_law_mixed := _,
    F_law_mixed := fun_mk (st := s_law_mixed) llaw_mixed claw_mixed klaw_mixed,
    m__law_mixed := PySem.W.mg_of X G alaw_mixed,
    a_law_draw := flaw_draw, fd_law_draw := _,
    F_law_draw := fun_mk (st := s_law_draw) llaw_draw claw_draw klaw_draw,
    m__law_draw := PySem.W.mg_of X G alaw_draw,
    a_law_one_of := flaw_one_of, fd_law_one_of := _,
    F_law_one_of := fun_mk (st := s_law_one_of) llaw_one_of claw_one_of klaw_one_of,
    m__law_one_of := PySem.W.mg_of X G alaw_one_of,
    a_law_shuffled := flaw_shuffled, fd_law_shuffled := _,
    F_law_shuffled := fun_mk (st := s_law_shuffled) llaw_shuffled claw_shuffled klaw_shuffled,
    m__law_shuffled := PySem.W.mg_of X G alaw_shuffled,
    a_law_letters := flaw_letters, fd_law_letters := _,
    F_law_letters := fun_mk (st := s_law_letters) llaw_letters claw_letters klaw_letters,
    m__law_letters := PySem.W.mg_of X G alaw_letters,
    a_law_names := flaw_names, fd_law_names := _,
    F_law_names := fun_mk (st := s_law_names) llaw_names claw_names klaw_names,
    m__law_names := PySem.W.mg_of X G alaw_names,
    a_law_chain := flaw_chain, fd_law_chain := _,
    F_law_chain := fun_mk (st := s_law_chain) llaw_chain claw_chain klaw_chain,
    m__law_chain := PySem.W.mg_of X G alaw_chain,
    a_law_times := flaw_times, fd_law_times := _,
    F_law_times := fun_mk (st := s_law_times) llaw_times claw_times klaw_times,
    m__law_times := PySem.W.mg_of X G alaw_times,
    a_law_used := flaw_used, fd_law_used := _,
    F_law_used := fun_mk (st := s_law_used) llaw_used claw_used klaw_used,
    m__law_used := PySem.W.mg_of X G alaw_used,
    a_law_sizes := flaw_sizes, fd_law_sizes := _,
    F_law_sizes := fun_mk (st := s_law_sizes) llaw_sizes claw_sizes klaw_sizes,
    m__law_sizes := PySem.W.mg_of X G alaw_sizes,
    a_law_spot := flaw_spot, fd_law_spot := _,
    F_law_spot := fun_mk (st := s_law_spot) llaw_spot claw_spot klaw_spot,
    m__law_spot := PySem.W.mg_of X G alaw_spot,
    a_law_fits := flaw_fits, fd_law_fits := _,
    F_law_fits := fun_mk (st := s_law_fits) llaw_fits claw_fits klaw_fits,
    m__law_fits := PySem.W.mg_of X G alaw_fits,
    a_law_chained := flaw_chained, fd_law_chained := _,
    F_law_chained := fun_mk (st := s_law_chained) llaw_chained claw_chained klaw_chained,
    m__law_chained := PySem.W.mg_of X G alaw_chained,
    a_law_cell := flaw_cell, fd_law_cell := _,
    F_law_cell := fun_mk (st := s_law_cell) llaw_cell claw_cell klaw_cell,
    m__law_cell := PySem.W.mg_of X G alaw_cell,
    a_law_right := flaw_right, fd_law_right := _,
    F_law_right := fun_mk (st := s_law_right) llaw_right claw_right klaw_right,
    m__law_right := PySem.W.mg_of X G alaw_right,
    a_law := fa, fd_law := _,
    F_law := fun_mk (st := s_law) llaw claw klaw,
    m_law := PySem.W.mg_of X G alaw,
    a_Plain := CPlain, m_Plain := PySem.W.mg_of X G aCPlain,
    c_Plain := ⟨pgPlain, hdPlain, poPlain, saPlain⟩,
    I_Plain := ⟨⟨pgPlain, hdPlain, poPlain, saPlain⟩, caPlain, cbPlain, ccPlain, cdPlain⟩,
    n_Plain_row := noPlainrow,
    k_Plain := ⟨mkPlain, aPlain___init, iPlain___init, kcPlain⟩,
    M_Plain_sizes := ⟨aPlain_sizes, iPlain_sizes, kPlain_sizes⟩,
    M_Plain___eq := ⟨aPlain___eq, iPlain___eq, kPlain___eq⟩,
    O_Plain := ⟨aPlain___eq, iPlain___eq, nePlain, obPlain⟩,
    n_bool := PySem.W.mg_none_of X G nbool,
    n_dict := PySem.W.mg_none_of X G ndict,
    n_enumerate := PySem.W.mg_none_of X G nenumerate,
    n_int := PySem.W.mg_none_of X G nint,
    n_isinstance := PySem.W.mg_none_of X G nisinstance,
    n_len := PySem.W.mg_none_of X G nlen,
    n_list := PySem.W.mg_none_of X G nlist,
    n_max := PySem.W.mg_none_of X G nmax,
    n_min := PySem.W.mg_none_of X G nmin,
    n_range := PySem.W.mg_none_of X G nrange,
    n_repr := PySem.W.mg_none_of X G nrepr,
    n_set := PySem.W.mg_none_of X G nset,
    n_sorted := PySem.W.mg_none_of X G nsorted,
    n_str := PySem.W.mg_none_of X G nstr,
    n_sum := PySem.W.mg_none_of X G nsum,
    n_tuple := PySem.W.mg_none_of X G ntuple,
    u_SMALL := _, m_SMALL := ⟨PySem.W.mg_of X G aKSMALL, ⟨_, rfl⟩⟩,
    tc := tc, tP := tP, tcode := LamP.code_is alaw_cell hTab }
  exact ⟨tc, tP, PySem.W.fnOf "law" "law" (defArgs s_law) (defBody s_law) (defScope s_law) .none kVlaw dclaw pmlaw anlaw cdlaw ctlaw, hTab, nTab, fun s v => .of_eq rfl, fun base _ _ TB => (ok_law T TB).imp fun vs H Q E z => sp_law_top T vs H Q E z⟩
theorem walk {l : PySem.W.OpenLaw} {q : Program} {loose : List Str} {XP : (Str → Option Value) → Heap → Prop} {YP : World → Heap → Prop} {d dL : DefRec} {K : Params → PySem.W.Frag} (hn : l.most = some 63) (hdf : d.params.defaults = []) (hrec : (PyProof.Rows.recsOf q).find? (fun e => e.name == ("_law_cell" : Str)) = some dL)
    (hY : ∀ (w : World) (h : Heap), YP w h → (K w.params).In h)
    (F : ∀ (w : World) (mg : Str → Option Value) (fa : Addr) (h : Heap), (K w.params).In h → h.Ns mainGlobals mg → mg d.name = some (.ref fa) → ∃ (tc tP : Addr) (fd : FuncData), PySem.W.tabIn (K w.params) "_law_cell" = some (tc, tP) ∧ ((K w.params)).lookup tP = none ∧ (∀ (s : Shared) (v : Value), BindsTo s fd ⟨[v], []⟩ [("_law_script", v)]) ∧ ∀ base : Heap, ((K w.params)).In base → base.Ns mainGlobals mg → LamX.TabB base mg tc tP → FnG l.prog w ((K w.params)) mg base CX0 12 fa fd ["_law_script"] (sp_top ((K w.params)) tP)) :
    PySem.W.WalkO q loose XP YP l.row.toRowW d [] (fun f vs => PySem.call f vs) := by
  exact LamP.walk_lamFG (n := 63) (k := 12) (x := "_law_script") (CX := fun _ => CX0) (sp := fun w tP => sp_top (K w.params) tP) hn (by decide) hdf ⟨rfl, by decide, by decide⟩ hrec hY F (fun _ _ _ a ns hl at_ hS => ⟨a, ns, rfl, hS, hl, at_, fun _ => rfl⟩) fun _ _ _ _ _ z => z
end CP
open PySem PySem.W PyProof.Rows
set_option maxRecDepth 100000 in
set_option maxHeartbeats 0 in
theorem PySem.Challenge.cw_cellplaces_k54_whole_cells_told_back_holds : PySem.Challenge.rw_cellplaces_k54_whole_cells_told_back.Holds := by
  w_on; o_law; k_head; (case hw => w_witness2)
  k_fill
  refine CP.walk (l := PySem.Challenge.rw_cellplaces_k54_whole_cells_told_back) rfl rfl (by first | rfl | kernel_rfl) (fun w h Y => PySem.W.km_in_of Y) ?F
  case F =>
    intro w mg fa h KX G hmg
    refine' CP.all_mk KX G hmg ?ais_whole ?lis_whole ?cis_whole ?kis_whole ?ais_count ?lis_count ?cis_count ?kis_count ?ais_letter ?lis_letter ?cis_letter ?kis_letter ?aare_values ?lare_values ?care_values ?kare_values ?acheck_sizes ?lcheck_sizes ?ccheck_sizes ?kcheck_sizes ?aare_letters ?lare_letters ?care_letters ?kare_letters ?aare_named ?lare_named ?care_named ?kare_named ?aare_sides ?lare_sides ?care_sides ?kare_sides ?avalued ?lvalued ?cvalued ?kvalued ?arest_of ?lrest_of ?crest_of ?krest_of ?aPlain___init ?lPlain___init ?cPlain___init ?kPlain___init ?aPlain_sizes ?lPlain_sizes ?cPlain_sizes ?kPlain_sizes ?aPlain___eq ?lPlain___eq ?cPlain___eq ?kPlain___eq ?acheck_table ?lcheck_table ?ccheck_table ?kcheck_table ?ais_ahead ?lis_ahead ?cis_ahead ?kis_ahead ?aordered ?lordered ?cordered ?kordered ?acheck_own ?lcheck_own ?ccheck_own ?kcheck_own ?afound_at ?lfound_at ?cfound_at ?kfound_at ?acell_of ?lcell_of ?ccell_of ?kcell_of ?alaw_purse ?llaw_purse ?claw_purse ?klaw_purse ?alaw_mixed ?llaw_mixed ?claw_mixed ?klaw_mixed ?alaw_draw ?llaw_draw ?claw_draw ?klaw_draw ?alaw_one_of ?llaw_one_of ?claw_one_of ?klaw_one_of ?alaw_shuffled ?llaw_shuffled ?claw_shuffled ?klaw_shuffled ?alaw_letters ?llaw_letters ?claw_letters ?klaw_letters ?alaw_names ?llaw_names ?claw_names ?klaw_names ?alaw_chain ?llaw_chain ?claw_chain ?klaw_chain ?alaw_times ?llaw_times ?claw_times ?klaw_times ?alaw_used ?llaw_used ?claw_used ?klaw_used ?alaw_sizes ?llaw_sizes ?claw_sizes ?klaw_sizes ?alaw_spot ?llaw_spot ?claw_spot ?klaw_spot ?alaw_fits ?llaw_fits ?claw_fits ?klaw_fits ?alaw_chained ?llaw_chained ?claw_chained ?klaw_chained ?alaw_cell ?llaw_cell ?claw_cell ?klaw_cell ?alaw_right ?llaw_right ?claw_right ?klaw_right ?alaw ?llaw ?claw ?klaw ?aCPlain ?pgPlain ?hdPlain ?poPlain ?saPlain ?caPlain ?cbPlain ?ccPlain ?cdPlain ?noPlainrow ?iPlain___init ?mkPlain ?kcPlain ?iPlain_sizes ?iPlain___eq ?nePlain ?obPlain ?nbool ?ndict ?nenumerate ?nint ?nisinstance ?nlen ?nlist ?nmax ?nmin ?nrange ?nrepr ?nset ?nsorted ?nstr ?nsum ?ntuple ?aKSMALL ?hTab ?nTab
    (case aCPlain => k_is)
    (case ais_whole => k_is)
    (case lis_whole => k_is)
    (case cis_whole => k_is)
    (case kis_whole => k_is)
    (case ais_count => k_is)
    (case lis_count => k_is)
    (case cis_count => k_is)
    (case kis_count => k_is)
    (case ais_letter => k_is)
    (case lis_letter => k_is)
    (case cis_letter => k_is)
    (case kis_letter => k_is)
    (case aare_values => k_is)
    (case lare_values => k_is)
    (case care_values => k_is)
    (case kare_values => k_is)
    (case acheck_sizes => k_is)
    (case lcheck_sizes => k_is)
    (case ccheck_sizes => k_is)
    (case kcheck_sizes => k_is)
    (case aare_letters => k_is)
    (case lare_letters => k_is)
    (case care_letters => k_is)
    (case kare_letters => k_is)
    (case aare_named => k_is)
    (case lare_named => k_is)
    (case care_named => k_is)
    (case kare_named => k_is)
    (case aare_sides => k_is)
    (case lare_sides => k_is)
    (case care_sides => k_is)
    (case kare_sides => k_is)
    (case avalued => k_is)
    (case lvalued => k_is)
    (case cvalued => k_is)
    (case kvalued => k_is)
    (case arest_of => k_is)
    (case lrest_of => k_is)
    (case crest_of => k_is)
    (case krest_of => k_is)
    (case aPlain___init => k_is)
    (case lPlain___init => k_is)
    (case cPlain___init => k_is)
    (case kPlain___init => k_is)
    (case aPlain_sizes => k_is)
    (case lPlain_sizes => k_is)
    (case cPlain_sizes => k_is)
    (case kPlain_sizes => k_is)
    (case aPlain___eq => k_is)
    (case lPlain___eq => k_is)
    (case cPlain___eq => k_is)
    (case kPlain___eq => k_is)
    (case acheck_table => k_is)
    (case lcheck_table => k_is)
    (case ccheck_table => k_is)
    (case kcheck_table => k_is)
    (case ais_ahead => k_is)
    (case lis_ahead => k_is)
    (case cis_ahead => k_is)
    (case kis_ahead => k_is)
    (case aordered => k_is)
    (case lordered => k_is)
    (case cordered => k_is)
    (case kordered => k_is)
    (case acheck_own => k_is)
    (case lcheck_own => k_is)
    (case ccheck_own => k_is)
    (case kcheck_own => k_is)
    (case afound_at => k_is)
    (case lfound_at => k_is)
    (case cfound_at => k_is)
    (case kfound_at => k_is)
    (case acell_of => k_is)
    (case lcell_of => k_is)
    (case ccell_of => k_is)
    (case kcell_of => k_is)
    (case alaw_purse => k_is)
    (case llaw_purse => k_is)
    (case claw_purse => k_is)
    (case klaw_purse => k_is)
    (case alaw_mixed => k_is)
    (case llaw_mixed => k_is)
    (case claw_mixed => k_is)
    (case klaw_mixed => k_is)
    (case alaw_draw => k_is)
    (case llaw_draw => k_is)
    (case claw_draw => k_is)
    (case klaw_draw => k_is)
    (case alaw_one_of => k_is)
    (case llaw_one_of => k_is)
    (case claw_one_of => k_is)
    (case klaw_one_of => k_is)
    (case alaw_shuffled => k_is)
    (case llaw_shuffled => k_is)
    (case claw_shuffled => k_is)
    (case klaw_shuffled => k_is)
    (case alaw_letters => k_is)
    (case llaw_letters => k_is)
    (case claw_letters => k_is)
    (case klaw_letters => k_is)
    (case alaw_names => k_is)
    (case llaw_names => k_is)
    (case claw_names => k_is)
    (case klaw_names => k_is)
    (case alaw_chain => k_is)
    (case llaw_chain => k_is)
    (case claw_chain => k_is)
    (case klaw_chain => k_is)
    (case alaw_times => k_is)
    (case llaw_times => k_is)
    (case claw_times => k_is)
    (case klaw_times => k_is)
    (case alaw_used => k_is)
    (case llaw_used => k_is)
    (case claw_used => k_is)
    (case klaw_used => k_is)
    (case alaw_sizes => k_is)
    (case llaw_sizes => k_is)
    (case claw_sizes => k_is)
    (case klaw_sizes => k_is)
    (case alaw_spot => k_is)
    (case llaw_spot => k_is)
    (case claw_spot => k_is)
    (case klaw_spot => k_is)
    (case alaw_fits => k_is)
    (case llaw_fits => k_is)
    (case claw_fits => k_is)
    (case klaw_fits => k_is)
    (case alaw_chained => k_is)
    (case llaw_chained => k_is)
    (case claw_chained => k_is)
    (case klaw_chained => k_is)
    (case alaw_cell => k_is)
    (case llaw_cell => k_is)
    (case claw_cell => k_is)
    (case klaw_cell => k_is)
    (case alaw_right => k_is)
    (case llaw_right => k_is)
    (case claw_right => k_is)
    (case klaw_right => k_is)
    (case alaw => k_is)
    (case llaw => k_is)
    (case claw => k_is)
    (case klaw => k_is)
    (case pgPlain => k_is)
    (case hdPlain => k_is)
    (case poPlain => k_is)
    (case saPlain => k_is)
    (case caPlain => k_is)
    (case cbPlain => k_is)
    (case ccPlain => k_is)
    (case cdPlain => k_is)
    (case noPlainrow => k_is)
    (case iPlain___init => k_is)
    (case mkPlain => k_is)
    (case kcPlain => k_is)
    (case iPlain_sizes => k_is)
    (case iPlain___eq => k_is)
    (case nePlain => k_is)
    (case obPlain => k_is)
    (case nbool => k_is)
    (case ndict => k_is)
    (case nenumerate => k_is)
    (case nint => k_is)
    (case nisinstance => k_is)
    (case nlen => k_is)
    (case nlist => k_is)
    (case nmax => k_is)
    (case nmin => k_is)
    (case nrange => k_is)
    (case nrepr => k_is)
    (case nset => k_is)
    (case nsorted => k_is)
    (case nstr => k_is)
    (case nsum => k_is)
    (case ntuple => k_is)
    (case aKSMALL => k_is)
    (case hTab => exact rfl)
    (case nTab => first | rfl | kernel_rfl | k_is)
