import PyProof.Rows.All
import Wide.All
import OpenK.AllK
import Wide.FinOn
import HandS.Base
import HandS.Call
import HandS.List
import HandS.Comp
import HandS.Ends
import HandS.Dict
import HandS.Iter
import HandS.Words
import HandS.Wide
import HandS.WideBits
import HandS.Defaults
import HandS.IsInst
import HandS.SortInts
import HandS.Strs
import HandS.TupAny
import HandS.Steps
import HandS.Set
import HandS.SetFor
import HandS.MakeKwOnly
import PyProof.Rows.SortShellAny
import PyProof.Rows.SortStr
import PyProof.Rows.StrMeet
import HandS.OwnEq
import HandS.DeepEq
import HandS.DictComp
import PyProof.InstNe
import HandS.Style
import KE.KItemsList
import HandS.SortOrd
import HandS.SortRule
import HandS.ListItems
import KE.KEqDeep
import HandS.Zip
import HandS.Finally
import HandS.More
import KE.DataFind
import HandS.Conv
import KE.KDictWalk
import KE.KDictDisplayH
import KE.KOpsOwn
import KE.KEqDict
import PyProof.TupleOps
import PyProof.ZipIter
import OpenK.KOps
import KE.KDictZip
import KE.KTurns
import KE.SortKeyHeap
import HandS.Lambda
import HandS.Keys
import HandS.EndTab
import HandS.EndOwn
import KE.KNest
import KE.KNestM
import KE.KDictSum
import HandS.RaiseMore
import PyProof.ReprRoads
import KE.SortData
import HandS.HeadHook2
import PySem.Challenge.RW_cellplaces_k03_whole_terms
set_option Elab.async false
set_option linter.all false
set_option maxRecDepth 100000
set_option maxHeartbeats 4000000

set_option linter.all false
set_option autoImplicit false
/-! numbers written by steps and sizes: one way alone, and all of them -/
namespace CP
namespace Gr
section
variable {α : Type}
def spot (t c : α → Int) : List α → Int
  | [] => 0
  | a :: L => c a * t a + spot t c L
def topv (t z : α → Int) (L : List α) : Int := spot t (fun a => z a - 1) L
def Good (t z : α → Int) : List α → Prop
  | [] => True
  | a :: L => 1 ≤ t a ∧ 1 ≤ z a ∧ (z a = 1 ∨ topv t z L < t a) ∧ Good t z L
def Within (z c : α → Int) (L : List α) : Prop := ∀ a ∈ L, 0 ≤ c a ∧ c a < z a
variable {t z c d : α → Int}
theorem spot_cons {a : α} {L : List α} : spot t c (a :: L) = c a * t a + spot t c L := rfl
theorem top_cons {a : α} {L : List α} : topv t z (a :: L) = (z a - 1) * t a + topv t z L := rfl
theorem good_pos : ∀ {L : List α}, Good t z L → ∀ a ∈ L, 1 ≤ t a ∧ 1 ≤ z a
  | [], _, a, h => nomatch h
  | b :: L, g, a, h => by
    rcases List.mem_cons.mp h with rfl | h
    · exact ⟨g.1, g.2.1⟩
    · exact good_pos g.2.2.2 a h
theorem spot_nonneg : ∀ {L : List α}, (∀ a ∈ L, 1 ≤ t a) → Within z c L → 0 ≤ spot t c L
  | [], _, _ => Int.le_refl _
  | a :: L, h, w => by
    have i := spot_nonneg (fun b hb => h b (List.mem_cons_of_mem _ hb)) fun b hb => w b (List.mem_cons_of_mem _ hb)
    have := Int.mul_nonneg (w a (List.mem_cons_self ..)).1 (by have := h a (List.mem_cons_self ..); omega : 0 ≤ t a)
    rw [spot_cons]
    omega
theorem spot_le : ∀ {L : List α}, (∀ a ∈ L, 1 ≤ t a) → Within z c L → spot t c L ≤ topv t z L
  | [], _, _ => Int.le_refl _
  | a :: L, h, w => by
    have i := spot_le (fun b hb => h b (List.mem_cons_of_mem _ hb)) fun b hb => w b (List.mem_cons_of_mem _ hb)
    have wa := w a (List.mem_cons_self ..)
    have := Int.mul_le_mul_of_nonneg_right (by omega : c a ≤ z a - 1) (by have := h a (List.mem_cons_self ..); omega : 0 ≤ t a)
    rw [spot_cons, top_cons]
    omega
theorem inj : ∀ {L : List α}, Good t z L → Within z c L → Within z d L → spot t c L = spot t d L → ∀ a ∈ L, c a = d a
  | [], _, _, _, _, a, h => nomatch h
  | b :: L, g, w, v, e, a, ha => by
    obtain ⟨g1, g2, g3, g4⟩ := g
    have w' : Within z c L := fun x hx => w x (List.mem_cons_of_mem _ hx)
    have v' : Within z d L := fun x hx => v x (List.mem_cons_of_mem _ hx)
    have wb := w b (List.mem_cons_self ..)
    have vb := v b (List.mem_cons_self ..)
    have p : ∀ x ∈ L, 1 ≤ t x := fun x hx => (good_pos g4 x hx).1
    have k : c b = d b := by
      rcases g3 with z1 | lt
      · omega
      · have a1 := spot_nonneg p w'
        have a2 := spot_nonneg p v'
        have b1 := spot_le p w'
        have b2 := spot_le p v'
        rw [spot_cons, spot_cons] at e
        rcases Int.lt_trichotomy (c b) (d b) with l | l | l
        · have := Int.mul_le_mul_of_nonneg_right (by omega : c b + 1 ≤ d b) (by omega : 0 ≤ t b)
          rw [Int.add_mul, Int.one_mul] at this
          omega
        · exact l
        · have := Int.mul_le_mul_of_nonneg_right (by omega : d b + 1 ≤ c b) (by omega : 0 ≤ t b)
          rw [Int.add_mul, Int.one_mul] at this
          omega
    rcases List.mem_cons.mp ha with rfl | ha
    · exact k
    · refine inj g4 w' v' ?_ a ha
      rw [spot_cons, spot_cons, k] at e
      omega
end
/-! rising lists -/
/-! all cells -/
end Gr
end CP

set_option linter.all false
set_option autoImplicit false
/-! the first numbers that no one ahead divides -/
namespace CP
namespace Un
def tab : List Int := [2, 3, 5, 7, 11, 13, 17, 19, 23, 29, 31, 37]
/-- where the search for the next one starts -/
def start (i : Nat) : Int := if i = 0 then 2 else tab.getD (i - 1) 0
/-- where it ends -/
def stop (i : Nat) : Int := tab.getD i 0
end Un
end CP

set_option Elab.async false
set_option linter.all false
set_option maxRecDepth 100000
set_option maxHeartbeats 4000000
/-! CP: own short words over the hand layer: operators by name, readings one step at a time -/
namespace CP
open PySem L2

/-! ### operators by name -/
abbrev oAdd : R2 := rI0 fun i j => .int (i + j)
abbrev oSub : R2 := rI0 fun i j => .int (i - j)
abbrev oMul : R2 := rI CMulW fun i j => .int (i * j)
abbrev oDiv : R2 := rI CDivW fun i j => .int (i / j)
abbrev oMod : R2 := rI (fun _ j => 0 < j) fun i j => .int (i % j)
abbrev oLt : R2 := rI0 fun i j => .bl (decide (i < j))
abbrev oLe : R2 := rI0 fun i j => .bl (decide (i ≤ j))
abbrev oGt : R2 := rI0 fun i j => .bl (decide (j < i))
abbrev oNeg : V → Hp → VK → Prop := rU fun i => .int (-i)
/-- a power of a base below 2 ^ 1000, the exponent at most 1000 -/
def CPw (i j : Int) : Prop := 0 ≤ j ∧ j ≤ 1000 ∧ i.natAbs < 2 ^ 1000
abbrev oPow : R2 := rI CPw fun i j => .int (i ^ j.toNat)
def oList (K : PySem.W.Frag) : List V → Hp → VK → Prop := fun xs H Q => ∃ p ys, xs = [.ref p] ∧ (SqL K H p ys ∨ SqT K H p ys) ∧ ∀ l, H l = none → Q (.ref l) (upd H l (.lst ys))
def oMax2 : List V → Hp → VK → Prop := fun xs H Q => ∃ i j, xs = [.int i, .int j] ∧ Q (.int (if j > i then j else i)) H
def oMin2 : List V → Hp → VK → Prop := fun xs H Q => ∃ i j, xs = [.int i, .int j] ∧ Q (.int (if j < i then j else i)) H
def oAbs : List V → Hp → VK → Prop := fun xs H Q => ∃ i, xs = [.int i] ∧ Q (.int (if i < 0 then -i else i)) H
def rLenA (K : PySem.W.Frag) : List V → Hp → VK → Prop := fun xs H Q => ∃ p ys, xs = [.ref p] ∧ (SqL K H p ys ∨ SqT K H p ys) ∧ Q (.int ys.length) H
section
variable {X : Cx}
theorem call_lenA : CallR X (.builtin "len") (rLenA X.K) := call_len_seq
theorem call_maxA (h : X.calm = true) : CallR X (.builtin "max") oMax2 := call_max2 h
theorem call_minA (h : X.calm = true) : CallR X (.builtin "min") oMin2 := call_min2 h
theorem call_absA : CallR X (.builtin "abs") oAbs := call_abs
theorem call_listA : CallR X (.type "list") (oList X.K) := call_list_of
theorem op_powW : OpR X (binaryOp .Pow) oPow := opI fun i j _ _ _ _ _ hc q => by
  obtain ⟨h0, h1, h2⟩ := hc
  refine PyProof.Rows.pow_int h0 ?_ q
  have b := PyProof.Rows.intBits_le h2
  have h3 : (Builtin.Int.intBits i : Int) * j ≤ 1000 * j := Int.mul_le_mul_of_nonneg_right (by omega) h0
  omega
end

/-! ### kinds of values, isinstance -/
def kinds : List String := ["NoneType", "bool", "int", "str", "list", "tuple", "dict"]
theorem kit_all : (kinds.all fun n => (["int", "bool", "str", "list", "tuple", "dict"]).all fun c => decide (kitB n c = some (n == c || (n == "bool" && c == "int")))) = true := by decide +kernel
theorem kit_in {K : PySem.W.Frag} {n c : String} (h : n ∈ kinds) (hc : c ∈ ["int", "bool", "str", "list", "tuple", "dict"]) : PySem.W.kitOne K (.type n) (.type c) = some (n == c || (n == "bool" && c == "int")) :=
  kit_ty (of_decide_eq_true (List.all_eq_true.mp (List.all_eq_true.mp kit_all n h) c hc))
/-- a value of one of these kinds -/
def TK (K : PySem.W.Frag) (H : Hp) (x : V) (n : String) : Prop := n ∈ kinds ∧ TyX K H x (.type n)
section
variable {K : PySem.W.Frag} {H : Hp} {Q : VK} {x : V} {n c : String}
theorem r_isi (h : TK K H x n) (hc : c ∈ ["int", "bool", "str", "list", "tuple", "dict"]) (q : Q (.bl (n == c || (n == "bool" && c == "int"))) H) : rIsi K [x, .ty c] H Q :=
  ⟨x, .ty c, .type n, .type c, _, rfl, .ty c, h.2, kit_in h.1 hc, q⟩
theorem tk_int {i : Int} : TK K H (.int i) "int" := ⟨by decide, .base (.int i)⟩
theorem tk_bl {b : Bool} : TK K H (.bl b) "bool" := ⟨by decide, .base (.bl b)⟩
theorem tk_non : TK K H .non "NoneType" := ⟨by decide, .base .non⟩
theorem tk_str {z : Str} : TK K H (.str z) "str" := ⟨by decide, .base (.str z)⟩
theorem tk_lst {a : Addr} {xs : List V} (h : H a = some (.lst xs)) : TK K H (.ref a) "list" := ⟨by decide, .base (.lst h)⟩
theorem tk_tup {a : Addr} {xs : List V} (h : H a = some (.tup xs)) : TK K H (.ref a) "tuple" := ⟨by decide, .base (.tup h)⟩
theorem tk_dK {a : Addr} {kvs : List (Key × V)} (h : H a = some (.dK kvs)) : TK K H (.ref a) "dict" := ⟨by decide, .base (.dK h)⟩
end
/-! ### sizes of products, divisors -/
theorem mul_ok {i j : Int} (h : -(2 ^ 400) < i ∧ i < 2 ^ 400 ∧ -(2 ^ 400) < j ∧ j < 2 ^ 400) : CMulW i j :=
  wide_mul (a := 400) (b := 400) (by omega) (by omega) (by decide) (by decide) (by decide)
theorem mul_okN {a b : Nat} (h : a < 2 ^ 400 ∧ b < 2 ^ 400) : CMulW (a : Int) (b : Int) := mul_ok (by omega)
theorem div_ok {i j : Int} (h : 0 < j ∧ j < 2 ^ 400) : CDivW i j := wide_div (b := 400) h.1 (by omega) (by decide) (by decide)

/-! ### heaps: one that grows, one that changes at one place -/
/-- all but l stands -/
def SB (l : Addr) (H H' : Hp) : Prop := ∀ b o, b ≠ l → H b = some o → H' b = some o
section
variable {H H1 H' : Hp} {a l : Addr} {o u : HO}
theorem same_new (h : H a = none) : Same H (upd H a o) := fun b u e => by
  rw [upd_ne (ne_of_none e h)]
  exact e
theorem sb_upd : SB l H (upd H l o) := fun b u hb e => by
  rw [upd_ne hb]
  exact e
theorem Same.to (s : Same H H') (h : H a = some o) : H' a = some o := s a o h
theorem SB.to (s : SB l H H') (n : a ≠ l) (h : H a = some o) : H' a = some o := s a o n h
theorem Same.sb (s : Same H H1) (n : H l = none) (b : SB l H1 H') : Same H H' := fun c u e => b c u (ne_of_none e n) (s c u e)
theorem SB.same (s : SB l H H1) (b : Same H1 H') : SB l H H' := fun c u hc e => b c u (s c u hc e)
theorem SB.trans (s : SB l H H1) (b : SB l H1 H') : SB l H H' := fun c u hc e => b c u hc (s c u hc e)
theorem SB.new (s : SB l H H1) (n : H a = none) (b : SB a H1 H') : SB l H H' := fun c u hc e => b c u (ne_of_none e n) (s c u hc e)
theorem SB.free (e : SB a H H') (h : H' l = none) (n : l ≠ a) : H l = none := by
  cases q : H l with
  | none => rfl
  | some o =>
    rw [e l o n q] at h
    cases h
end

/-- many new objects told at once -/
theorem inv_grow {X : Cx} {pins : List (Addr × Obj)} {σ : St} {H H' : Hp} {s : Shared} {h' : Heap} {tk : Nat} (I : Inv X pins σ H s) (hk : ∀ b o, s.heap.get? b = some o → h'.get? b = some o) (ext : Same H H')
    (new : ∀ b o, H' b = some o → H b = some o ∨ (s.heap.objs.size ≤ b ∧ ObjOk X.prog X.w H' h' b o)) : Inv X pins σ H' { s with heap := h', toks := tk } := by
  have old : ∀ b o, s.heap.get? b = some o → H b = none → H' b = none := fun b o e n => by
    cases q : H' b with
    | none => rfl
    | some u =>
      rcases new b u q with z | ⟨z, _⟩
      · rw [n] at z; cases z
      · exact absurd (Heap.lt_size e) (Nat.not_lt.mpr z)
  refine I.un ⟨fun b o e _ _ _ => hk b o e, fun b o e _ _ _ => ⟨o.slots, hk b o e⟩, fun b o e n _ => old b o e n, fun b o e _ => ⟨o, hk b o e⟩, fun b xs e => ext b _ e, fun b o u e => ext b _ e, fun b ps e => ⟨#[], by rw [ext b _ e]; simp⟩⟩ fun b u e => ?_
  rcases new b u e with z | ⟨_, z⟩
  · exact (I.hok b u z).stay (fun c v _ q => hk c v q) (fun c q => ext c _ q) fun c xs q => ext c _ q
  · exact z

/-! ### readings one step at a time -/
section
variable {K : PySem.W.Frag} {σ : St} {H : Hp} {Q : VK} {D : Ends} {i j : Nat} {v x y : V} {ta tb te : TE} {tt tu : TT} {t1 t2 : TS} {tas tr : TA}
theorem r_var (h : σ[i]? = some (some v)) (q : Q v H) : tVar i σ H Q := ⟨v, h, q⟩
theorem r_c (q : Q v H) : tC v σ H Q := q
theorem r_op {r : R2} (q : ta σ H fun x H1 => tb σ H1 fun y H2 => r x y H2 Q) : tOp r ta tb σ H Q := q
theorem r_un {r : V → Hp → VK → Prop} (q : ta σ H fun x H1 => r x H1 Q) : tUn r ta σ H Q := q
theorem r_I0 {g : Int → Int → V} {i j : Int} (q : Q (g i j) H) : rI0 g (.int i) (.int j) H Q := ⟨i, j, rfl, rfl, q⟩
theorem r_I {C : Int → Int → Prop} {g : Int → Int → V} {i j : Int} (c : C i j) (q : Q (g i j) H) : rI C g (.int i) (.int j) H Q := ⟨i, j, rfl, rfl, c, q⟩
theorem r_ne (h : scal x y = true) (q : Q (.bl (!decide (x = y))) H) : rNe x y H Q := ⟨h, q⟩
theorem r_eqI {i j : Int} (q : Q (.bl (decide (i = j))) H) : rEq (.int i) (.int j) H Q := ⟨rfl, by
  have e : decide (V.int i = V.int j) = decide (i = j) := by
    by_cases h : i = j
    · subst h; simp
    · have h' : ¬ V.int i = V.int j := fun z => h (V.int.inj z)
      simp [h]
  rw [e]; exact q⟩
theorem r_neI {i j : Int} (q : Q (.bl (!decide (i = j))) H) : rNe (.int i) (.int j) H Q := ⟨rfl, by
  have e : decide (V.int i = V.int j) = decide (i = j) := by
    by_cases h : i = j
    · subst h; simp
    · have h' : ¬ V.int i = V.int j := fun z => h (V.int.inj z)
      simp [h]
  rw [e]; exact q⟩
theorem r_test {Q : Bool → Hp → Prop} (q : te σ H fun x H1 => ∃ k, x = .bl k ∧ Q k H1) : tTest te σ H Q := q
theorem r_tB {Q : Bool → Hp → Prop} (q : te σ H fun x H1 => ∃ k, x = .bl k ∧ Q k H1) : tB te σ H Q := q
theorem r_bl {b : Bool} {P : Bool → Prop} (q : P b) : ∃ k, V.bl b = .bl k ∧ P k := ⟨b, rfl, q⟩
theorem r_and {Q : Bool → Hp → Prop} (q : tt σ H fun c H1 => if c = true then tu σ H1 Q else Q false H1) : tAnd tt tu σ H Q := q
theorem r_or {Q : Bool → Hp → Prop} (q : tt σ H fun c H1 => if c = true then Q true H1 else tu σ H1 Q) : tOr tt tu σ H Q := q
theorem r_not {Q : Bool → Hp → Prop} (q : tt σ H fun c H1 => Q (!c) H1) : tNot tt σ H Q := q
theorem r_andV (q : ta σ H fun x H1 => ∃ c, x = .bl c ∧ if c = true then tb σ H1 Q else Q (.bl false) H1) : tAndV ta tb σ H Q := q
theorem r_orV (q : ta σ H fun x H1 => ∃ c, x = .bl c ∧ if c = true then Q (.bl true) H1 else tb σ H1 Q) : tOrV ta tb σ H Q := q
theorem r_notV (q : ta σ H fun x H1 => ∃ c, x = .bl c ∧ Q (.bl (!c)) H1) : tNotV ta σ H Q := q
theorem r_ifE (q : tt σ H fun c H1 => if c = true then ta σ H1 Q else tb σ H1 Q) : tIf tt ta tb σ H Q := q
theorem r_nil {Q : List V → Hp → Prop} (q : Q [] H) : tNil σ H Q := q
theorem r_cons {Q : List V → Hp → Prop} (q : ta σ H fun x H1 => tr σ H1 fun xs H2 => Q (x :: xs) H2) : tCons ta tr σ H Q := q
theorem r_cb {r : List V → Hp → VK → Prop} (q : tas σ H fun vs H1 => r vs H1 Q) : tCB r tas σ H Q := q
theorem r_call {sp : Sp} {E : XK} (q : tas σ H fun vs H1 => sp (vs ++ []) H1 Q E) : tCall sp [] E tas σ H Q := q
theorem r_callD {sp : Sp} {dvs : List V} {E : XK} (q : tas σ H fun vs H1 => sp (vs ++ dvs) H1 Q E) : tCall sp dvs E tas σ H Q := q
/-- a new object -/
def NewO (o : HO) (H : Hp) (Q : VK) : Prop := ∀ p, H p = none → Q (.ref p) (upd H p o)
theorem r_newO {o : HO} (q : ∀ p H', H p = none → Same H H' → H' p = some o → Q (.ref p) H') : NewO o H Q := fun p h => q p _ h (same_new h) upd_same
theorem r_lst (q : tas σ H fun xs H1 => xs.length ≤ sizeLine ∧ NewO (.lst xs) H1 Q) : tLst tas σ H Q := q
theorem r_tup (q : tas σ H fun xs H1 => xs.length ≤ sizeLine ∧ NewO (.tup xs) H1 Q) : tTup tas σ H Q := q
theorem r_dnewK (q : NewO (.dK []) H Q) : tDNewK σ H Q := q
theorem r_mk {n : Nat} {o : HO} (hz : n ≤ sizeLine) (q : ∀ p H', H p = none → Same H H' → H' p = some o → Q (.ref p) H') : n ≤ sizeLine ∧ NewO o H Q := ⟨hz, r_newO q⟩
/-! built-ins by what they say -/
theorem r_len {p : Addr} {ys : List V} (h : SqL K H p ys) (q : Q (.int ys.length) H) : rLenA K [.ref p] H Q := ⟨p, ys, rfl, .inl h, q⟩
theorem r_lenT {p : Addr} {ys : List V} (h : SqT K H p ys) (q : Q (.int ys.length) H) : rLenA K [.ref p] H Q := ⟨p, ys, rfl, .inr h, q⟩
theorem r_list {p : Addr} {ys : List V} (h : SqL K H p ys) (q : ∀ l H', H l = none → Same H H' → H' l = some (.lst ys) → Q (.ref l) H') : oList K [.ref p] H Q := ⟨p, ys, rfl, .inl h, fun l hl => q l _ hl (same_new hl) upd_same⟩
theorem r_max2 {i j : Int} (q : Q (.int (if j > i then j else i)) H) : oMax2 [.int i, .int j] H Q := ⟨i, j, rfl, q⟩
theorem r_min2 {i j : Int} (q : Q (.int (if j < i then j else i)) H) : oMin2 [.int i, .int j] H Q := ⟨i, j, rfl, q⟩
theorem r_abs {i : Int} (q : Q (.int (if i < 0 then -i else i)) H) : oAbs [.int i] H Q := ⟨i, rfl, q⟩
theorem r_sum {p : Addr} {ns : List Int} (h : SqL K H p (ns.map V.int)) (q : Q (.int ns.sum) H) : rSum K [.ref p] H Q := ⟨p, ns, rfl, h, q⟩
theorem r_cat {p b : Addr} {xs ys : List V} (h : H p = some (.lst xs)) (h2 : H b = some (.lst ys)) (hz : xs.length + ys.length ≤ sizeLine) (q : ∀ l H', H l = none → Same H H' → H' l = some (.lst (xs ++ ys)) → Q (.ref l) H') : rCat (.ref p) (.ref b) H Q :=
  ⟨p, b, xs, ys, rfl, rfl, h, h2, hz, fun l hl => q l _ hl (same_new hl) upd_same⟩
theorem r_app {p : Addr} {xs : List V} {y : V} (h : H p = some (.lst xs)) (hz : xs.length < sizeLine) (q : ∀ H', SB p H H' → H' p = some (.lst (xs ++ [y])) → Q .non H') : rAppend (.ref p) [y] H Q :=
  ⟨p, xs, y, rfl, rfl, h, hz, q _ sb_upd upd_same⟩
theorem r_slL {p : Addr} {xs : List V} {lo hi : Option Int} (h : SqL K H p xs) (q : ∀ l H', H l = none → Same H H' → H' l = some (.lst (cutV xs lo hi)) → Q (.ref l) H') : rSlL K (.ref p) lo hi H Q :=
  ⟨p, xs, rfl, h, fun l hl => q l _ hl (same_new hl) upd_same⟩
theorem r_ixL {p : Addr} {xs : List V} {i : Int} {v : V} (h : SqL K H p xs) (ha : atI xs i = some v) (q : Q v H) : rIxL K (.ref p) (.int i) H Q := ⟨p, xs, i, v, rfl, rfl, h, ha, q⟩
theorem r_ixT {p : Addr} {xs : List V} {i : Int} {v : V} (h : SqT K H p xs) (ha : atI xs i = some v) (q : Q v H) : rIxT K (.ref p) (.int i) H Q := ⟨p, xs, i, v, rfl, rfl, h, ha, q⟩
theorem r_setL {P : Hp → Prop} {p : Addr} {xs : List V} {i : Int} {j : Nat} {v : V} (h : H p = some (.lst xs)) (hj : ixN xs.length i = some j) (q : ∀ H', SB p H H' → H' p = some (.lst (xs.set j v)) → P H') : rSetL (.ref p) (.int i) v H P :=
  ⟨p, xs, i, j, rfl, rfl, h, hj, q _ sb_upd upd_same⟩
theorem r_gsub {to ti : TE} {t : TSet} {q' : St → Hp → Prop} (q : to σ H fun o H1 => ti σ H1 fun i H2 => t o i v H2 fun H3 => q' σ H3) : gSub to ti t v σ H q' := q
theorem r_in {p : Addr} {xs : List V} {neg : Bool} (h : SqL K H p xs) (hx : flatV x = true) (ha : xs.all flatV = true) (q : Q (.bl (if neg then !inV x xs else inV x xs)) H) : rIn K neg x (.ref p) H Q := ⟨p, xs, rfl, .inl h, hx, ha, q⟩
theorem r_bits {te : TE} (q : te σ H fun x H1 => ∃ i, x = .int i ∧ Q (.int (Builtin.Int.intBits i : Nat)) H1) : tBits te σ H Q := q
theorem r_iTup {R : It → Hp → Prop} {tl : TE} (q : tl σ H fun x H1 => ∃ a, x = .ref a ∧ (∃ xs, SqT K H1 a xs) ∧ R (Itt K a) H1) : iTup K tl σ H R := q
theorem r_iList {R : It → Hp → Prop} {tl : TE} (q : tl σ H fun x H1 => ∃ a, x = .ref a ∧ (∃ xs, SqL K H1 a xs) ∧ R (Itl K a) H1) : iList K tl σ H R := q
theorem r_iRng1 {R : It → Hp → Prop} (q : tas σ H fun vs H1 => ∃ j : Int, vs = [.int j] ∧ -(2 ^ 62) ≤ j ∧ j < 2 ^ 62 ∧ R (Itr 0 j.toNat) H1) : iRng1 tas σ H R := q
theorem r_dget2 {td ty tx : TE} (q : td σ H fun x H1 => ∃ a, x = .ref a ∧ IsD H1 a ∧ ty σ H1 fun y H2 => tx σ H2 fun z H3 => ∃ o, DGet H3 a y o ∧ Q (o.getD z) H3) : tDGet2 td ty tx σ H Q := q
theorem r_sdput {td ty tv : TE} (q : tv σ H fun v H1 => td σ H1 fun x H2 => ty σ H2 fun y H3 => ∃ a H4, x = .ref a ∧ DPut H3 a y v H4 ∧ D.nx σ H4) : sDPut td ty tv D σ H := q
theorem r_disp1 {i j : Int} (q : ∀ D H', H D = none → Same H H' → H' D = some (.dK [(Sum.inl i, .int j)]) → Q (.ref D) H') : tDisp [(tC (.int i), tC (.int j))] σ H Q := fun D hD => by
  refine ⟨upd_same, [(Sum.inl i, .int j)], rfl, Nat.succ_le_succ (Nat.zero_le _), ?_⟩
  refine q D _ hD (fun b o hb => ?_) upd_same
  have hne : b ≠ D := fun e => by rw [e, hD] at hb; cases hb
  rw [upd_ne hne, upd_ne hne]
  exact hb
theorem r_iRng2 {R : It → Hp → Prop} (q : tas σ H fun vs H1 => ∃ i j : Int, vs = [.int i, .int j] ∧ (-(2 ^ 62) ≤ i ∧ i < 2 ^ 62 ∧ -(2 ^ 62) ≤ j ∧ j < 2 ^ 62) ∧ R (Itr i (j - i).toNat) H1) : iRng2 tas σ H R := q
theorem r_rng2 {P : Int → Int → Prop} {i j : Int} (h : -(2 ^ 62) ≤ i ∧ i < 2 ^ 62 ∧ -(2 ^ 62) ≤ j ∧ j < 2 ^ 62) (q : P i j) : ∃ i' j' : Int, [V.int i, V.int j] = [.int i', .int j'] ∧ (-(2 ^ 62) ≤ i' ∧ i' < 2 ^ 62 ∧ -(2 ^ 62) ≤ j' ∧ j' < 2 ^ 62) ∧ P i' j' := ⟨i, j, rfl, h, q⟩
theorem r_neB {a b : Bool} (q : Q (.bl (a != b)) H) : rNe (.bl a) (.bl b) H Q := ⟨rfl, by cases a <;> cases b <;> simpa using q⟩
theorem r_eqB {a b : Bool} (q : Q (.bl (a == b)) H) : rEq (.bl a) (.bl b) H Q := ⟨rfl, by cases a <;> cases b <;> simpa using q⟩
theorem r_gtup {n : Nat} {u : TGs} {p : Addr} {xs : List V} {q' : St → Hp → Prop} (h : SqT K H p xs) (hl : xs.length = n) (q : u xs σ H q') : gTup K n u (.ref p) σ H q' := ⟨p, xs, rfl, h, hl, q⟩
theorem r_gcons {t : TG} {u : TGs} {v : V} {r : List V} {q' : St → Hp → Prop} (q : t v σ H fun σ' H' => u r σ' H' q') : gCons t u (v :: r) σ H q' := ⟨v, r, rfl, q⟩
theorem r_gnil {q' : St → Hp → Prop} (q : q' σ H) : gNil [] σ H q' := ⟨rfl, q⟩
theorem r_rng {P : Int → Prop} {j : Int} (h1 : -(2 ^ 62) ≤ j) (h2 : j < 2 ^ 62) (q : P j) : ∃ k : Int, [V.int j] = [.int k] ∧ -(2 ^ 62) ≤ k ∧ k < 2 ^ 62 ∧ P k := ⟨j, rfl, h1, h2, q⟩
/-- a comprehension over a list that stands, of flat tests and elements: what it makes -/
theorem r_lc {wi : TI} {g : TG} {vs : List Nat} (q : wi σ H fun J H1 => ∀ D, H1 D = none → ∃ W : Nat → Nat → Hp → Prop, (∃ m, W 0 m (upd H1 D (.lst []))) ∧ ∀ i m H, W i m H →
    (J.stop i H ∧ Q (.ref D) H) ∨ (J.go i H ∧ ∃ Nx : Hp → Prop, (∀ H', Nx H' → ∃ m', m' < m ∧ W (i + 1) m' H') ∧ ∀ x H', J.yld i H x H' → g x (wipe σ vs) H' fun σ2 H2 => wipe σ2 vs = wipe σ vs ∧ tt σ2 H2 fun b H3 =>
      if b = true then te σ2 H3 fun y H4 => ∃ acc, H4 D = some (.lst acc) ∧ acc.length < sizeLine ∧ Nx (upd H4 D (.lst (acc ++ [y]))) else Nx H3)) : tLc wi g tt te vs σ H Q := q
/-! statements -/
theorem r_seq (q : t1 { D with nx := t2 D } σ H) : tSeq t1 t2 D σ H := q
theorem r_next (q : D.nx σ H) : tNext D σ H := q
theorem r_asg {g : TG} (q : te σ H fun x H1 => g x σ H1 D.nx) : tAsg te g D σ H := q
theorem r_name {q' : St → Hp → Prop} (q : q' (σ.set i (some v)) H) : gName i v σ H q' := q
theorem r_par (q : tas σ H fun vs H1 => ∃ v w, vs = [v, w] ∧ D.nx ((σ.set i (some v)).set j (some w)) H1) : tPar i j tas D σ H := q
theorem r_two {v w : V} {P : V → V → Prop} (q : P v w) : ∃ x y, [v, w] = [x, y] ∧ P x y := ⟨v, w, rfl, q⟩
theorem r_ret (q : te σ H D.rt) : tRet te D σ H := q
theorem r_retN (q : D.rt .non H) : tRetN D σ H := q
theorem r_drop (q : te σ H fun _ H1 => D.nx σ H1) : tDrop te D σ H := q
theorem r_ifS (q : tt σ H fun b H1 => if b = true then t1 D σ H1 else t2 D σ H1) : tIfS tt t1 t2 D σ H := q
/-! branches -/
theorem if_d {c : Prop} [Decidable c] {A B : Prop} (h1 : c → A) (h2 : ¬ c → B) : if decide c = true then A else B := by
  by_cases h : c
  · rw [decide_eq_true h, if_pos rfl]; exact h1 h
  · rw [decide_eq_false h, if_neg Bool.false_ne_true]; exact h2 h
theorem if_nd {c : Prop} [Decidable c] {A B : Prop} (h1 : ¬ c → A) (h2 : c → B) : if (!decide c) = true then A else B := by
  by_cases h : c
  · rw [decide_eq_true h]; exact h2 h
  · rw [decide_eq_false h]; exact h1 h
theorem if_b {b : Bool} {A B : Prop} (h1 : b = true → A) (h2 : b = false → B) : if b = true then A else B := by
  cases b with
  | true => exact h1 rfl
  | false => exact h2 rfl
theorem if_t {A B : Prop} (h : A) : if true = true then A else B := h
theorem if_f {A B : Prop} (h : B) : if false = true then A else B := h
theorem if_nt {A B : Prop} (h : A) : if (!false) = true then A else B := h
theorem if_nf {A B : Prop} (h : B) : if (!true) = true then A else B := h
theorem r_sl {r : V → Option Int → Option Int → Hp → VK → Prop} {tl th : TO} (q : te σ H fun x H1 => tl σ H1 fun l H2 => th σ H2 fun u H3 => r x l u H3 Q) : tSl r te tl th σ H Q := q
theorem r_noPart {Q : Option Int → Hp → Prop} (q : Q none H) : tNoPart σ H Q := q
theorem r_part {Q : Option Int → Hp → Prop} (q : te σ H fun x H1 => ∃ i, x = .int i ∧ Q (some i) H1) : tPart te σ H Q := q
theorem r_int {i : Int} {P : Int → Prop} (q : P i) : ∃ k, V.int i = .int k ∧ P k := ⟨i, rfl, q⟩
theorem r_bm {T : String} {r : V → List V → Hp → VK → Prop} (q : ta σ H fun x H1 => tyV K T x H1 ∧ tas σ H1 fun xs H2 => r x xs H2 Q) : tBM K T r ta tas σ H Q := q
theorem r_bm0 {T : String} {r : V → List V → Hp → VK → Prop} (q : ta σ H fun x H1 => tyV K T x H1 ∧ r x [] H1 Q) : tBM0 K T r ta σ H Q := q
/-! loops -/
/-- the same where the test's outcome is known by the datum -/
theorem r_whileD {α : Type} {c : TT} {tb : TS} (W : α → St → Hp → Prop) (μ : α → Nat) (go : α → Bool) (a0 : α) (h0 : W a0 σ H)
    (hc : ∀ a σ H, W a σ H → ∀ Q : Bool → Hp → Prop, Q (go a) H → c σ H Q)
    (hs : ∀ a σ H, W a σ H → go a = true → tb { D with nx := fun σ' H' => ∃ a', W a' σ' H' ∧ μ a' < μ a, ct := fun σ' H' => ∃ a', W a' σ' H' ∧ μ a' < μ a, bk := D.nx } σ H)
    (hd : ∀ a σ H, W a σ H → go a = false → D.nx σ H) : tWhile c tb D σ H := by
  refine ⟨fun m σ H => ∃ a, μ a = m ∧ W a σ H, ⟨_, a0, rfl, h0⟩, ?_⟩
  rintro m σ H ⟨a, rfl, w⟩
  refine hc a σ H w _ ?_
  cases e : go a with
  | true =>
    rw [if_pos rfl]
    exact ⟨_, fun σ' H' ⟨a', w', l⟩ => ⟨_, l, a', rfl, w'⟩, hs a σ H w e⟩
  | false =>
    rw [if_neg Bool.false_ne_true]
    exact hd a σ H w e
theorem r_for {wi : TI} {g : TG} {tb : TS} (q : wi σ H fun J H1 => ∃ W : Nat → Nat → St → Hp → Prop, (∃ m, W 0 m σ H1) ∧ ∀ i m σ H, W i m σ H →
    (J.stop i H ∧ D.nx σ H) ∨ (J.go i H ∧ ∃ N : St → Hp → Prop, (∀ σ' H', N σ' H' → ∃ m', m' < m ∧ W (i + 1) m' σ' H') ∧ ∀ x H', J.yld i H x H' → g x σ H' fun σ2 H2 => tb { D with nx := N, ct := N, bk := D.nx } σ2 H2)) : tFor wi g tb D σ H := q
end
section
variable {H : Hp} {Q : VK} {p : Addr}
theorem r_notNr (q : Q (.bl true) H) : rNotN (.ref p) .non H Q := ⟨rfl, by rw [decide_eq_false (fun z => nomatch z)]; exact q⟩
theorem r_notNn (q : Q (.bl false) H) : rNotN .non .non H Q := ⟨rfl, by rw [decide_eq_true rfl]; exact q⟩
theorem r_isNr (q : Q (.bl false) H) : rIsN (.ref p) .non H Q := ⟨rfl, by rw [decide_eq_false (fun z => nomatch z)]; exact q⟩
theorem r_isNn (q : Q (.bl true) H) : rIsN .non .non H Q := ⟨rfl, by rw [decide_eq_true rfl]; exact q⟩
end
end CP

set_option Elab.async false
set_option linter.all false
set_option maxRecDepth 100000
set_option maxHeartbeats 4000000
set_option autoImplicit false
/-! lists of counts as values -/
namespace CP
open L2 PySem PyProof.Rows
theorem take_succ {α : Type} {l : List α} {i : Nat} {n : α} (h : l[i]? = some n) : l.take (i + 1) = l.take i ++ [n] := by
  rw [List.take_add_one, h]
  rfl
end CP

set_option Elab.async false
set_option linter.all false
set_option maxRecDepth 100000
set_option maxHeartbeats 4000000
/-! sets of ints and of texts made of a list; sorted(set(list)) -/
namespace CP
open PySem L2

/-- the object of a set just made -/
abbrev set0 (w : World) : Obj := { cls := .type "set", dict := none, data := .set #[] 0 (.fresh 0 0 (!w.params.followText "set-order")) }
abbrev lit0 (l : Addr) : Obj := { cls := .type "list_iterator", data := .fields #[.ref l, .int 0 0] }
section
variable {P : Program} {w : World} {A : Around} {E : Value → Shared → Prop} {s : Shared} {Fin : Heap → Prop}
set_option maxRecDepth 100000 in
set_option maxHeartbeats 4000000 in
/-- set(l), l a list: its loop is what the caller says (it leaves the set as Fin tells) -/
theorem set_of_list {l : Addr} {items : Array Value} {Q : Value → Shared → Prop} (hl : s.heap.IsList l items)
    (loop : ∀ (A' : Around) (R : Result → Shared → Prop) (s1 : Shared), A'.handled = A.handled → s1.heap = (s.heap.push (set0 w)).push (lit0 l) →
      (∀ s', Moved [s.heap.objs.size, s.heap.objs.size + 1] (fun a b => b = a) s1 s' → Fin s'.heap → R (.ok (.ret .none)) s') →
      codeAny (model P w) A' (.builtin "set.update.loop" ⟨[.ref s.heap.objs.size, .ref (s.heap.objs.size + 1)], []⟩) R s1)
    (h : ∀ (h' : Heap) (tk : Nat), Fin h' → (∀ b o, s.heap.get? b = some o → h'.get? b = some o) → Q (.ref s.heap.objs.size) { s with heap := h', toks := tk }) :
    wpAny (model P w) A (call (.type "set") [.ref l]) Q E s := by
  have f1 := F.called_set.made
  have f2 := F.called_set.sub
  have f3 := F.called_set.notType
  have f4 := F.called_set.canCreate
  have f5 := F.typeCall_set_1 (.ref l)
  obtain ⟨cn, tl, f6⟩ := F.called_set.mro
  refine wpAny_call (codeAny_of_tree ?_)
  show wpAny _ _ (callAny (.type "set") _) _ _ _
  have e0 := weight_type_call_type "set" [.ref l] []
  refine wpAny_pure ⟨Code.quiet_builtin _ (by decide +kernel),
    codeAny_builtin F.entry_type_call ?_⟩
  rw [Around.under_plain e0 rfl]
  repeat (any_goals (first | assumption | wp_step))
  refine codeAny_mono (code_set_led1 (.ref l) (E := E)
    (Q₁ := fun v s₁ => v = .ref s.heap.objs.size ∧ s₁ = { s with heap := s.heap.push (set0 w) }) ⟨rfl, rfl⟩) fun r s₁ hr => ?_
  cases r with
  | error e => exact hr
  | ok fl =>
    cases fl with
    | ret obj =>
      obtain ⟨rfl, rfl⟩ := hr
      have g0 : (s.heap.push (set0 w)).get? s.heap.objs.size = some (set0 w) := Heap.get?_push_size _ rfl
      have gT : Shared.TypeIs { s with heap := s.heap.push (set0 w) } (.ref s.heap.objs.size) "set" := ⟨_, g0, rfl⟩
      have f7 := F.called_set.init.lookup
      have f8 := F.called_set.init.bind (.ref s.heap.objs.size)
      repeat (any_goals (first | assumption | wp_step))
      refine codeAny_mono (codeAny_call_builtin
        (R := wants (fun r s₂ => r = .none ∧ ∃ h' tk, s₂ = { s with heap := h', toks := tk } ∧ Fin h' ∧ ∀ b o, s.heap.get? b = some o → h'.get? b = some o) E)
        F.called_set.init.plain F.entry_set_init (check_set_init_1 gT ?_)) fun r₂ s₂ hr₂ => ?_
      · obtain ⟨ol, hol, hcl, nl, hdl⟩ := hl
        obtain ⟨c1, c2, c3, c4⟩ := ol
        simp only at hcl hdl
        subst hcl; subst hdl
        have hol' : (s.heap.push (set0 w)).get? l = some { cls := .type "list", dict := c2, data := .seq items nl, slots := c4 } := Heap.get?_push_of_some _ hol
        have u1 := F.sub_list_set
        have u2 := F.sub_list_frozenset
        have u3 : (Value.type "list" == Value.type "dict") = false := by decide
        have hl1 : (s.heap.push (set0 w)).IsList l items := ⟨_, hol', rfl, nl, rfl⟩
        clear f1 f2 f3 f4 f5 f6 f7 f8 e0 g0 gT h
        unfold Builtin.«set.__init__» noKeywords Builtin.Frozenset.updateFrom
        generalize hPI : pyIter = PI
        wp_walk
        subst hPI
        refine wpAny_pyIter_list hl1 ?_
        refine wpAny_bind (wpAny_runValue ?_)
        have z1 : (s.heap.push (set0 w)).objs.size = s.heap.objs.size + 1 := Heap.size_push ..
        rw [z1]
        refine loop _ _ _ (by simp) rfl fun s' hm hF => ?_
        obtain ⟨h', g2, d', tk', os'⟩ := s'
        have q1 : g2 = s.gens := hm.gens
        have q2 : d' = s.drawn := hm.drawn
        have q3 : os' = s.os := hm.os
        subst q1; subst q2; subst q3
        show wpAny _ _ _ _ _ _
        refine wpAny_pure ?_
        show wpAny _ _ (ret Value.none) _ _ _
        refine wpAny_pure ⟨rfl, h', tk', rfl, hF, fun b o e => ?_⟩
        have lt := Heap.lt_size e
        refine hm.heap b o (fun z => ?_) (Heap.get?_push_of_some _ (Heap.get?_push_of_some _ e))
        rcases List.mem_cons.mp z with z | z
        · exact absurd z (Nat.ne_of_lt lt)
        · exact absurd (List.mem_singleton.mp z) (Nat.ne_of_lt (Nat.lt_succ_of_lt lt))
      · cases r₂ with
        | error e => exact hr₂
        | ok fl₂ =>
          cases fl₂ with
          | ret r =>
            obtain ⟨rfl, h', tk, rfl, hF, hk⟩ := hr₂
            repeat (any_goals (first | assumption | wp_step))
            exact h _ _ hF hk
          | _ => exact hr₂.elim
    | _ => exact hr.elim
end
end CP

set_option Elab.async false
set_option linter.all false
set_option maxRecDepth 100000
set_option maxHeartbeats 4000000
/-! sets of ints made of a list; sorted(set(list)) -/
namespace CP
open PySem L2
section
variable {P : Program} {w : World} {A : Around} {E : Value → Shared → Prop} {s : Shared}
end
section
variable {X : Cx}
end
end CP

set_option Elab.async false
set_option linter.all false
set_option maxRecDepth 100000
set_option maxHeartbeats 4000000
set_option autoImplicit false
/-! calls with keywords alone; what a call with keywords binds -/
namespace CP
open L2 PySem PyProof.Rows

def tCallW (m : Nat) (sp : Sp) (gV : List V → List V) (E : XK) (tk : TA) : TE := fun σ H Q => tk σ H fun zs H2 => zs.length = m ∧ sp (gV zs) H2 Q E
/-- the keywords' values in the parameters' order -/
structure KB0 (K : PySem.W.Frag) (fd : FuncData) (ps ks : List Str) (g : List Value → List Value) (gV : List V → List V) : Prop where
  to : ∀ (s : Shared) (ws : List Value), K.In s.heap → ws.length = ks.length → BindsTo s fd ⟨[], ks.zip ws⟩ (ps.zip (g ws))
  rel : ∀ {zs : List V} {ws : List Value}, Vals zs ws → zs.length = ks.length → Vals (gV zs) (g ws)
section
variable {X : Cx} {CX : CXT} {k m : Nat} {f : Addr} {fd : FuncData} {ps ks : List Str} {sp : Sp} {E : XK} {x : Str} {p pos : Pos} {kws : List Keyword} {tk : TA} {g : List Value → List Value} {gV : List V → List V}
end
/-- a def without defaults -/
theorem Fun.kb {K : PySem.W.Frag} {x qual : Str} {st : Stmt} {f : Addr} {fd : FuncData} {ps ks : List Str} {g : List Value → List Value} {gV : List V → List V} (F : Fun K x qual st f fd)
    (h : ∀ (kV doc pm : Value) (an : Option Addr) (cdv ct : Value) (ws : List Value), ws.length = ks.length → bindArgs (PySem.W.fnOf x qual (defArgs st) (defBody st) (defScope st) .none kV doc pm an cdv ct) ⟨[], ks.zip ws⟩ = pure (ps.zip (g ws)))
    (hr : ∀ {zs : List V} {ws : List Value}, Vals zs ws → zs.length = ks.length → Vals (gV zs) (g ws)) : KB0 K fd ps ks g gV := by
  obtain ⟨oc, od, kV, doc, pm, an, cdv, ct, osl, rfl, lk, hcd⟩ := F.ex
  exact ⟨fun s ws _ hl => .of_eq (h kV doc pm an cdv ct ws hl), hr⟩
/-- a def with defaults -/
theorem FunD.kb {K : PySem.W.Frag} {x qual : Str} {params : Arguments} {body : List Stmt} {scope : Scope} {dvs : List V} {f : Addr} {fd : FuncData} {ps ks : List Str} {g : List Value → List Value → List Value} {gV : List V → List V} (F : FunD K x qual params body scope dvs [] f fd) (hd : dvs ≠ [])
    (h : ∀ (T : Addr) (kV doc pm : Value) (an : Option Addr) (cdv ct : Value) (its ws : List Value), its.length = dvs.length → ws.length = ks.length →
      ∃ k, bindArgs (PySem.W.fnOf x qual params body scope (.ref T) kV doc pm an cdv ct) ⟨[], ks.zip ws⟩ = seqItems? (.ref T) >>= k ∧ k (some its.toArray) = pure (ps.zip (g its ws)))
    (hr : ∀ {its : List Value} {zs : List V} {ws : List Value}, Vals dvs its → Vals zs ws → zs.length = ks.length → Vals (gV zs) (g its ws)) : ∃ its, KB0 K fd ps ks (g its) gV := by
  obtain ⟨oc, od, dV, kV, doc, pm, an, cdv, ct, osl, rfl, lk, hcd, hD, hK⟩ := F.ex
  rcases hD with ⟨e, _⟩ | ⟨_, T, o, its, m, rfl, lT, oT, rT⟩
  · exact absurd e hd
  · refine ⟨its, fun s ws X hl => ?_, fun r l => hr rT r l⟩
    obtain ⟨k, e1, e2⟩ := h T kV doc pm an cdv ct its ws rT.length.symm hl
    refine BindsTo.of_looks fun M => ?_
    rw [e1]
    exact looks_items X lT oT (.of_pure e2)
section
variable {σ : L2.St} {H : Hp} {Q : VK} {m : Nat} {sp : Sp} {gV : List V → List V} {E : XK} {tk : TA}
theorem r_callW (q : tk σ H fun zs H2 => zs.length = m ∧ sp (gV zs) H2 Q E) : tCallW m sp gV E tk σ H Q := q
end
end CP

set_option Elab.async false
set_option linter.all false
set_option maxRecDepth 100000
set_option maxHeartbeats 4000000
set_option autoImplicit false
/-! comprehensions whose elements are told one by one, new objects among them -/
namespace CP
open L2 PySem PyProof.Rows
/-- the heap without one object -/
def hide (D : Addr) (H : Hp) : Hp := fun b => if b = D then none else H b
theorem hide_ne {D b : Addr} {H : Hp} (h : b ≠ D) : hide D H b = H b := if_neg h
theorem hide_same {D : Addr} {H : Hp} : Same (hide D H) H := fun b o h => by
  unfold hide at h
  split at h
  · cases h
  · exact h
theorem hide_upd {D : Addr} {H : Hp} {o : HO} : hide D (upd H D o) = hide D H := funext fun b => by
  unfold hide
  by_cases e : b = D
  · rw [if_pos e, if_pos e]
  · rw [if_neg e, if_neg e, upd_ne e]
theorem hide_mono {D : Addr} {H H' : Hp} (s : Same H H') : Same (hide D H) (hide D H') := fun b o h => by
  unfold hide at h ⊢
  by_cases e : b = D
  · rw [if_pos e] at h; cases h
  · rw [if_neg e] at h; rw [if_neg e]; exact s b o h
theorem pd_mono {α β : Type} {R R' : α → β → Prop} {xs : List α} {ys : List β} (h : Paired R xs ys) (m : ∀ a b, R a b → R' a b) : Paired R' xs ys := by
  induction h with
  | nil => exact .nil
  | cons h _ ih => exact .cons (m _ _ h) ih
theorem pd_len {α β : Type} {R : α → β → Prop} {xs : List α} {ys : List β} (h : Paired R xs ys) : xs.length = ys.length := by
  induction h with
  | nil => rfl
  | cons _ _ ih => rw [List.length_cons, List.length_cons, ih]
theorem pd_app {α β : Type} {R : α → β → Prop} {xs xs' : List α} {ys ys' : List β} (h : Paired R xs ys) (h' : Paired R xs' ys') : Paired R (xs ++ xs') (ys ++ ys') := by
  induction h with
  | nil => exact h'
  | cons h _ ih => exact .cons h ih
theorem pd_one {α β : Type} {R : α → β → Prop} {x : α} {y : β} (h : R x y) : Paired R [x] [y] := .cons h .nil
theorem pd_get {α β : Type} {R : α → β → Prop} {xs : List α} {ys : List β} (h : Paired R xs ys) {i : Nat} {x : α} (e : xs[i]? = some x) : ∃ y, ys[i]? = some y ∧ R x y := by
  induction h generalizing i with
  | nil => cases e
  | cons h _ ih =>
    cases i with
    | zero => cases e; exact ⟨_, rfl, h⟩
    | succ i => exact ih (i := i) e
theorem pd_get' {α β : Type} {R : α → β → Prop} {xs : List α} {ys : List β} (h : Paired R xs ys) {i : Nat} {y : β} (e : ys[i]? = some y) : ∃ x, xs[i]? = some x ∧ R x y := by
  induction h generalizing i with
  | nil => cases e
  | cons h _ ih =>
    cases i with
    | zero => cases e; exact ⟨_, rfl, h⟩
    | succ i => exact ih (i := i) e
theorem pd_eq {α : Type} {xs ys : List α} (h : Paired (fun a b => a = b) xs ys) : xs = ys := by
  induction h with
  | nil => rfl
  | cons h _ ih => rw [h, ih]
theorem same_seqT {K : PySem.W.Frag} {H H' : Hp} {a : Addr} {xs : List V} (s : Same H H') (h : SqT K H a xs) : SqT K H' a xs := by
  rcases h with (z | ⟨o, z⟩) | z
  · exact .inl (.inl (s _ _ z))
  · exact .inl (.inr ⟨o, s _ _ z⟩)
  · exact .inr z
section
variable {β : Type} {K : PySem.W.Frag} {a : Addr} {xs : List V} {g : TG} {tt : TT} {te : TE} {vs : List Nat} {σ : L2.St} {H1 : Hp} {D : Addr} {Qd : Hp → Prop}
/-- the state behind i turns -/
def Acc (R : Hp → V → β → Prop) (H1 : Hp) (D : Addr) (ys : List (Option β)) (i : Nat) (H : Hp) : Prop := Same H1 H ∧ ∃ acc, H D = some (.lst acc) ∧ Paired (R (hide D H)) acc ((ys.take i).filterMap id)
theorem acc_zero {R : Hp → V → β → Prop} {ys : List (Option β)} (hD : H1 D = none) : Acc R H1 D ys 0 (upd H1 D (.lst [])) := ⟨same_new hD, [], upd_same, by rw [List.take_zero]; exact .nil⟩
theorem acc_no {R : Hp → V → β → Prop} (mono : ∀ H H' v b, Same H H' → R H v b → R H' v b) {ys : List (Option β)} {i : Nat} {H H' : Hp} (p : Acc R H1 D ys i H) (h : ys[i]? = some none) (s : Same H H') : Acc R H1 D ys (i + 1) H' := by
  obtain ⟨s1, acc, e, pr⟩ := p
  refine ⟨s1.trans s, acc, CP.Same.to s e, ?_⟩
  rw [List.take_add_one, h]
  simp only [Option.toList_some, List.filterMap_append, List.filterMap_cons, id_eq, List.filterMap_nil, List.append_nil]
  exact pd_mono pr fun v b => mono _ _ v b (hide_mono s)
theorem acc_yes {R : Hp → V → β → Prop} (mono : ∀ H H' v b, Same H H' → R H v b → R H' v b) {ys : List (Option β)} {i : Nat} {z : β} {H H' : Hp} {y : V} (hD : H1 D = none) (hz : ys.length < sizeLine) (p : Acc R H1 D ys i H) (h : ys[i]? = some (some z)) (s : Same H H') (r : R (hide D H') y z) :
    ∃ acc, H' D = some (.lst acc) ∧ acc.length < sizeLine ∧ Acc R H1 D ys (i + 1) (upd H' D (.lst (acc ++ [y]))) := by
  obtain ⟨s1, acc, e, pr⟩ := p
  refine ⟨acc, CP.Same.to s e, ?_, CP.Same.sb (s1.trans s) hD sb_upd, acc ++ [y], upd_same, ?_⟩
  · rw [pd_len pr]
    refine Nat.lt_of_le_of_lt (List.length_filterMap_le ..) ?_
    rw [List.length_take]
    omega
  · rw [List.take_add_one, h, hide_upd]
    simp only [Option.toList_some, List.filterMap_append, List.filterMap_cons, id_eq, List.filterMap_nil]
    exact pd_app (pd_mono pr fun v b => mono _ _ v b (hide_mono s)) (pd_one r)
theorem acc_end {R : Hp → V → β → Prop} (mono : ∀ H H' v b, Same H H' → R H v b → R H' v b) {ys : List (Option β)} {H : Hp} (p : Acc R H1 D ys ys.length H) : Same H1 H ∧ ∃ acc, H D = some (.lst acc) ∧ Paired (R H) acc (ys.filterMap id) := by
  obtain ⟨s1, acc, e, pr⟩ := p
  rw [List.take_length] at pr
  exact ⟨s1, acc, e, pd_mono pr fun v b => mono _ _ v b hide_same⟩
/-- one turn: what has to be shown of it -/
def Turn (g : TG) (tt : TT) (te : TE) (vs : List Nat) (σ : L2.St) (R : Hp → V → β → Prop) (D : Addr) (H : Hp) (x : V) (o : Option β) : Prop :=
  ∀ N : Hp → Prop, (∀ H', o = none → Same H H' → N H') → (∀ H' y z, o = some z → Same H H' → R (hide D H') y z → ∃ acc, H' D = some (.lst acc) ∧ acc.length < sizeLine ∧ N (upd H' D (.lst (acc ++ [y])))) →
    g x (wipe σ vs) H fun σ2 H2 => wipe σ2 vs = wipe σ vs ∧ tt σ2 H2 fun b H3 => if b = true then te σ2 H3 fun y H4 => ∃ acc, H4 D = some (.lst acc) ∧ acc.length < sizeLine ∧ N (upd H4 D (.lst (acc ++ [y]))) else N H3
theorem turn_of {R : Hp → V → β → Prop} (mono : ∀ H H' v b, Same H H' → R H v b → R H' v b) {ys : List (Option β)} (hD : H1 D = none) (hz : ys.length < sizeLine) {i : Nat} {H : Hp} {x : V} {o : Option β} (p : Acc R H1 D ys i H) (h : ys[i]? = some o) (t : Turn g tt te vs σ R D H x o) :
    g x (wipe σ vs) H fun σ2 H2 => wipe σ2 vs = wipe σ vs ∧ tt σ2 H2 fun b H3 => if b = true then te σ2 H3 fun y H4 => ∃ acc, H4 D = some (.lst acc) ∧ acc.length < sizeLine ∧ Acc R H1 D ys (i + 1) (upd H4 D (.lst (acc ++ [y]))) else Acc R H1 D ys (i + 1) H3 :=
  t _ (fun H' e s => acc_no mono p (by rw [h, e]) s) fun H' y z e s r => acc_yes mono hD hz p (by rw [h, e]) s r
/-- over a list that stands -/
theorem lc_tell (R : Hp → V → β → Prop) (ys : List (Option β)) (hD : H1 D = none) (ha : SqL K H1 a xs) (hl : xs.length = ys.length) (hz : ys.length < sizeLine) (mono : ∀ H H' v b, Same H H' → R H v b → R H' v b)
    (hs : ∀ (i : Nat) (x : V) (o : Option β) (H : Hp), xs[i]? = some x → ys[i]? = some o → Same H1 H → (∃ acc, H D = some (.lst acc)) → Turn g tt te vs σ R D H x o)
    (hd : ∀ H acc, Same H1 H → H D = some (.lst acc) → Paired (R H) acc (ys.filterMap id) → Qd H) :
    ∃ W : Nat → Nat → Hp → Prop, (∃ m, W 0 m (upd H1 D (.lst []))) ∧ ∀ i m H, W i m H →
      ((Itl K a).stop i H ∧ Qd H) ∨ ((Itl K a).go i H ∧ ∃ Nx : Hp → Prop, (∀ H', Nx H' → ∃ m', m' < m ∧ W (i + 1) m' H') ∧ ∀ x H', (Itl K a).yld i H x H' → g x (wipe σ vs) H' fun σ2 H2 => wipe σ2 vs = wipe σ vs ∧ tt σ2 H2 fun b H3 =>
        if b = true then te σ2 H3 fun y H4 => ∃ acc, H4 D = some (.lst acc) ∧ acc.length < sizeLine ∧ Nx (upd H4 D (.lst (acc ++ [y]))) else Nx H3) := by
  refine lc_list (K := K) (a := a) (xs := xs) (Acc R H1 D ys) (acc_zero hD) (fun i H _ w => L2.Same.seq w.1 ha) (fun i x H hx p => ?_) fun H p => ?_
  · have hi : i < ys.length := by rw [← hl]; exact (List.getElem?_eq_some_iff.mp hx).1
    exact turn_of mono hD hz p (List.getElem?_eq_getElem hi) (hs i x _ H hx (List.getElem?_eq_getElem hi) p.1 (p.2.imp fun _ z => z.1))
  · rw [hl] at p
    obtain ⟨s, acc, e, pr⟩ := acc_end mono p
    exact hd H acc s e pr
theorem lc_tellT (R : Hp → V → β → Prop) (ys : List (Option β)) (hD : H1 D = none) (ha : SqT K H1 a xs) (hl : xs.length = ys.length) (hz : ys.length < sizeLine) (mono : ∀ H H' v b, Same H H' → R H v b → R H' v b)
    (hs : ∀ (i : Nat) (x : V) (o : Option β) (H : Hp), xs[i]? = some x → ys[i]? = some o → Same H1 H → (∃ acc, H D = some (.lst acc)) → Turn g tt te vs σ R D H x o)
    (hd : ∀ H acc, Same H1 H → H D = some (.lst acc) → Paired (R H) acc (ys.filterMap id) → Qd H) :
    ∃ W : Nat → Nat → Hp → Prop, (∃ m, W 0 m (upd H1 D (.lst []))) ∧ ∀ i m H, W i m H →
      ((Itt K a).stop i H ∧ Qd H) ∨ ((Itt K a).go i H ∧ ∃ Nx : Hp → Prop, (∀ H', Nx H' → ∃ m', m' < m ∧ W (i + 1) m' H') ∧ ∀ x H', (Itt K a).yld i H x H' → g x (wipe σ vs) H' fun σ2 H2 => wipe σ2 vs = wipe σ vs ∧ tt σ2 H2 fun b H3 =>
        if b = true then te σ2 H3 fun y H4 => ∃ acc, H4 D = some (.lst acc) ∧ acc.length < sizeLine ∧ Nx (upd H4 D (.lst (acc ++ [y]))) else Nx H3) := by
  refine lc_tup (K := K) (a := a) (xs := xs) (Acc R H1 D ys) (acc_zero hD) (fun i H _ w => same_seqT w.1 ha) (fun i x H hx p => ?_) fun H p => ?_
  · have hi : i < ys.length := by rw [← hl]; exact (List.getElem?_eq_some_iff.mp hx).1
    exact turn_of mono hD hz p (List.getElem?_eq_getElem hi) (hs i x _ H hx (List.getElem?_eq_getElem hi) p.1 (p.2.imp fun _ z => z.1))
  · rw [hl] at p
    obtain ⟨s, acc, e, pr⟩ := acc_end mono p
    exact hd H acc s e pr
/-- over a text -/
theorem lc_tellS {z : Str} (R : Hp → V → β → Prop) (ys : List (Option β)) (hD : H1 D = none) (hl : z.cps.size = ys.length) (hz : ys.length < sizeLine) (mono : ∀ H H' v b, Same H H' → R H v b → R H' v b)
    (hs : ∀ (i : Nat) (c : Nat) (o : Option β) (H : Hp), z.cps[i]? = some c → ys[i]? = some o → Same H1 H → (∃ acc, H D = some (.lst acc)) → Turn g tt te vs σ R D H (.str ⟨#[c]⟩) o)
    (hd : ∀ H acc, Same H1 H → H D = some (.lst acc) → Paired (R H) acc (ys.filterMap id) → Qd H) :
    ∃ W : Nat → Nat → Hp → Prop, (∃ m, W 0 m (upd H1 D (.lst []))) ∧ ∀ i m H, W i m H →
      ((Its z).stop i H ∧ Qd H) ∨ ((Its z).go i H ∧ ∃ Nx : Hp → Prop, (∀ H', Nx H' → ∃ m', m' < m ∧ W (i + 1) m' H') ∧ ∀ x H', (Its z).yld i H x H' → g x (wipe σ vs) H' fun σ2 H2 => wipe σ2 vs = wipe σ vs ∧ tt σ2 H2 fun b H3 =>
        if b = true then te σ2 H3 fun y H4 => ∃ acc, H4 D = some (.lst acc) ∧ acc.length < sizeLine ∧ Nx (upd H4 D (.lst (acc ++ [y]))) else Nx H3) := by
  refine ⟨fun i m H => m = ys.length - i ∧ i ≤ ys.length ∧ Acc R H1 D ys i H, ⟨ys.length, by simp, Nat.zero_le _, acc_zero hD⟩, ?_⟩
  rintro i m H ⟨rfl, hi, p⟩
  by_cases lt : i < ys.length
  · refine .inr ⟨(by rw [hl]; exact lt : i < z.cps.size), Acc R H1 D ys (i + 1), fun H' p' => ⟨ys.length - (i + 1), by omega, rfl, lt, p'⟩, fun x H' y => ?_⟩
    obtain ⟨rfl, c, hc, rfl⟩ := y
    exact turn_of mono hD hz p (List.getElem?_eq_getElem lt) (hs i c _ _ hc (List.getElem?_eq_getElem lt) p.1 (p.2.imp fun _ z => z.1))
  · have e : i = ys.length := by omega
    subst e
    obtain ⟨s, acc, e, pr⟩ := acc_end mono p
    exact .inl ⟨(by rw [hl]; exact Nat.le_refl _ : z.cps.size ≤ ys.length), hd H acc s e pr⟩
theorem lc_noneL {xs : List V} (hD : H1 D = none) (ha : SqL K H1 a xs) (hz : xs.length < sizeLine)
    (hs : ∀ (i : Nat) (x : V) (H : Hp), xs[i]? = some x → Same H1 H → Turn (β := V) g tt te vs σ (fun _ x b => x = b) D H x none) (hd : ∀ H, Same H1 H → H D = some (.lst []) → Qd H) :
    ∃ W : Nat → Nat → Hp → Prop, (∃ m, W 0 m (upd H1 D (.lst []))) ∧ ∀ i m H, W i m H →
      ((Itl K a).stop i H ∧ Qd H) ∨ ((Itl K a).go i H ∧ ∃ Nx : Hp → Prop, (∀ H', Nx H' → ∃ m', m' < m ∧ W (i + 1) m' H') ∧ ∀ x H', (Itl K a).yld i H x H' → g x (wipe σ vs) H' fun σ2 H2 => wipe σ2 vs = wipe σ vs ∧ tt σ2 H2 fun b H3 =>
        if b = true then te σ2 H3 fun y H4 => ∃ acc, H4 D = some (.lst acc) ∧ acc.length < sizeLine ∧ Nx (upd H4 D (.lst (acc ++ [y]))) else Nx H3) := by
  refine lc_tell (β := V) (fun _ x b => x = b) (xs.map fun _ => none) hD ha (by rw [List.length_map]) (by rw [List.length_map]; exact hz) (fun _ _ _ _ _ z => z) (fun i x o H hx ho s1 _ => ?_) fun H acc s1 hacc pp => ?_
  · have e : o = none := by
      rw [List.getElem?_map, hx] at ho
      exact (Option.some.inj ho).symm
    subst e
    exact hs i x H hx s1
  · have e : acc = [] := by
      rw [pd_eq pp]
      clear pp hs hz ha
      induction xs with
      | nil => rfl
      | cons _ xs ih => exact ih
    subst e
    exact hd H s1 hacc
theorem lc_valsL {xs : List V} (ys : List V) (hD : H1 D = none) (ha : SqL K H1 a xs) (hl : xs.length = ys.length) (hz : ys.length < sizeLine)
    (hs : ∀ (i : Nat) (x y : V) (H : Hp), xs[i]? = some x → ys[i]? = some y → Same H1 H → Turn (β := V) g tt te vs σ (fun _ x b => x = b) D H x (some y)) (hd : ∀ H, Same H1 H → H D = some (.lst ys) → Qd H) :
    ∃ W : Nat → Nat → Hp → Prop, (∃ m, W 0 m (upd H1 D (.lst []))) ∧ ∀ i m H, W i m H →
      ((Itl K a).stop i H ∧ Qd H) ∨ ((Itl K a).go i H ∧ ∃ Nx : Hp → Prop, (∀ H', Nx H' → ∃ m', m' < m ∧ W (i + 1) m' H') ∧ ∀ x H', (Itl K a).yld i H x H' → g x (wipe σ vs) H' fun σ2 H2 => wipe σ2 vs = wipe σ vs ∧ tt σ2 H2 fun b H3 =>
        if b = true then te σ2 H3 fun y H4 => ∃ acc, H4 D = some (.lst acc) ∧ acc.length < sizeLine ∧ Nx (upd H4 D (.lst (acc ++ [y]))) else Nx H3) := by
  refine lc_tell (β := V) (fun _ x b => x = b) (ys.map some) hD ha (by rw [List.length_map]; exact hl) (by rw [List.length_map]; exact hz) (fun _ _ _ _ _ z => z) (fun i x o H hx ho s1 _ => ?_) fun H acc s1 hacc pp => ?_
  · rw [List.getElem?_map] at ho
    cases ey : ys[i]? with
    | none => rw [ey] at ho; cases ho
    | some y =>
      rw [ey] at ho
      cases ho
      exact hs i x y H hx ey s1
  · have e : acc = ys := by
      rw [pd_eq pp, List.filterMap_map]
      exact List.filterMap_some
    subst e
    exact hd H s1 hacc
theorem r_yes {σ : L2.St} {H : Hp} {Q : Bool → Hp → Prop} (q : Q true H) : tYes σ H Q := q
end
end CP

set_option Elab.async false
set_option linter.all false
set_option maxRecDepth 100000
set_option maxHeartbeats 4000000
set_option autoImplicit false
/-! dicts whose keys are numbers and texts: one step at a time -/
namespace CP
open L2 PySem PyProof.Rows
section
variable {K : PySem.W.Frag} {σ : L2.St} {H : Hp} {Q : VK} {d : Addr} {kvs : List (Key × V)} {v : V} {i : Int} {z : Str} {td ty tv : TE}
theorem r_tdni (q : ty σ H fun y H1 => td σ H1 fun x H2 => ∃ a o, x = .ref a ∧ DGet H2 a y o ∧ Q (.bl (!o.isSome)) H2) : tDNotIn ty td σ H Q := q
theorem r_tdin (q : ty σ H fun y H1 => td σ H1 fun x H2 => ∃ a o, x = .ref a ∧ DGet H2 a y o ∧ Q (.bl o.isSome) H2) : tDIn ty td σ H Q := q
theorem r_tdget (q : td σ H fun x H1 => ty σ H1 fun y H2 => ∃ a v, x = .ref a ∧ DGet H2 a y (some v) ∧ Q v H2) : tDGet td ty σ H Q := q
theorem r_lookI {P : Option V → Prop} (h : H d = some (.dK kvs)) (q : P (valV kvs (Sum.inl i))) : ∃ a o, V.ref d = .ref a ∧ DGet H a (.int i) o ∧ P o := ⟨d, _, rfl, DGet.k (k := Sum.inl i) h, q⟩
theorem r_lookS {P : Option V → Prop} (h : H d = some (.dK kvs)) (q : P (valV kvs (Sum.inr z))) : ∃ a o, V.ref d = .ref a ∧ DGet H a (.str z) o ∧ P o := ⟨d, _, rfl, DGet.k (k := Sum.inr z) h, q⟩
theorem r_dgetS {P : V → Prop} (h : H d = some (.dK kvs)) (e : valV kvs (Sum.inr z) = some v) (q : P v) : ∃ a v, V.ref d = .ref a ∧ DGet H a (.str z) (some v) ∧ P v := ⟨d, v, rfl, e ▸ DGet.k (k := Sum.inr z) h, q⟩
theorem r_dget2I {P : Option V → Prop} (h : H d = some (.dK kvs)) (q : P (valV kvs (Sum.inl i))) : ∃ o, DGet H d (.int i) o ∧ P o := ⟨_, DGet.k (k := Sum.inl i) h, q⟩
theorem r_dget2S {P : Option V → Prop} (h : H d = some (.dK kvs)) (q : P (valV kvs (Sum.inr z))) : ∃ o, DGet H d (.str z) o ∧ P o := ⟨_, DGet.k (k := Sum.inr z) h, q⟩
theorem r_isD {P : Addr → Prop} (h : H d = some (.dK kvs)) (q : P d) : ∃ a, V.ref d = .ref a ∧ IsD H a ∧ P a := ⟨d, rfl, .inl ⟨_, .inl h⟩, q⟩
theorem r_dputS {N : Hp → Prop} (h : H d = some (.dK kvs)) (l : kvs.length < sizeLine) (q : ∀ H', SB d H H' → H' d = some (.dK (putK kvs (Sum.inr z) v)) → N H') : ∃ a H', V.ref d = .ref a ∧ DPut H a (.str z) v H' ∧ N H' :=
  ⟨d, _, rfl, .inl ⟨kvs, Sum.inr z, h, rfl, l, rfl⟩, q _ sb_upd upd_same⟩
end
end CP

set_option Elab.async false
set_option linter.all false
set_option maxRecDepth 100000
set_option maxHeartbeats 4000000
/-! sets of texts: made of a list, sorted -/
namespace CP
open PySem L2 PySem.Spec PyProof.Rows
def txtOf (e : Int × Value) : Str := match e.2 with | .str x _ => x | _ => Str.empty
def TxtE (w : World) (e : Int × Value) : Prop := ∃ x tk, e.2 = Value.str x tk ∧ e.1 = hashStr w x
abbrev tkd (P : Program) (w : World) := PySem.strKind P w
/-- the set of texts at a: T its members, n how many; its table can be walked -/
def SetT (w : World) (h : Heap) (a : Addr) (T : Str → Bool) (n : Nat) : Prop :=
  ∃ o es ep tb, h.get? a = some o ∧ o.ExactSet ∧ o.data = .set es ep tb ∧ (∀ e ∈ es.toList, TxtE w e) ∧ (es.toList.map txtOf).Nodup ∧ (∀ x, T x = true ↔ x ∈ es.toList.map txtOf) ∧
    es.size < scanBound ∧ tb.fits es.size = true ∧ es.size = n ∧ Ris tb.place.toList ∧ (w.params.followText "set-order" = true ∨ tb.led = true)
section
variable {P : Program} {w : World} {h h' : Heap} {a : Addr} {T : Str → Bool} {n : Nat}
theorem SetT.there (R : SetT w h a T n) (k : ∀ o, h.get? a = some o → h'.get? a = some o) : SetT w h' a T n := by
  obtain ⟨o, es, ep, tb, got, more⟩ := R
  exact ⟨o, es, ep, tb, k o got, more⟩
theorem SetT.same {T' : Str → Bool} (R : SetT w h a T n) (e : ∀ x, T' x = T x) : SetT w h a T' n := (funext e : T' = T) ▸ R
theorem txt_elems {l : List (Int × Value)} (g : ∀ e ∈ l, TxtE w e) : ElemsOf (tkd P w) l := fun e he => by
  obtain ⟨x, tk, h1, h2⟩ := g e he
  exact ⟨⟨x, by rw [h1]; exact strKind_is P w x tk, h2⟩, by rw [h1] <;> rfl⟩
theorem txt_is {e : Int × Value} (g : TxtE w e) (x : Str) : (tkd P w).is x e.2 = true ↔ txtOf e = x := by
  obtain ⟨y, tk, h1, _⟩ := g
  unfold txtOf
  rw [h1]
  show ((y == x) = true) ↔ y = x
  exact beq_iff_eq
theorem txt_mem {l : List (Int × Value)} (g : ∀ e ∈ l, TxtE w e) (x : Str) : x ∈ l.map txtOf ↔ ∃ e ∈ l, (tkd P w).is x e.2 = true := by
  rw [List.mem_map]
  exact ⟨fun ⟨e, he, q⟩ => ⟨e, he, (txt_is (g e he) x).2 q⟩, fun ⟨e, he, q⟩ => ⟨e, he, (txt_is (g e he) x).1 q⟩⟩
end
section
variable {P : Program} {w : World} {A : Around} {E : Value → Shared → Prop} {s : Shared} {a : Addr} {T : Str → Bool} {n : Nat}
theorem tail_txt {gv : Bool → Sem Unit} (hgv : ∀ (b : Bool) (t : Shared) (J : Unit → Shared → Prop), J () t → wpAny (model P w) A (gv b) J E t)
    {o : Obj} {es : Array (Int × Value)} {ep : Nat} {tb : SetTable} (got : s.heap.get? a = some o) (ex : o.ExactSet) (dat : o.data = .set es ep tb)
    {fs : Array (Int × Value)} {tc : SetTable} {T' : Str → Bool} (ent : ∀ e ∈ fs.toList, TxtE w e) (dis : (fs.toList.map txtOf).Nodup) (mem : ∀ x, T' x = true ↔ x ∈ fs.toList.map txtOf)
    (below : fs.size < scanBound) (fit : tc.fits fs.size = true) (ris : Ris tc.place.toList) (led : w.params.followText "set-order" = true ∨ tc.led = true) {dum : Bool} {R : Option Bool → Shared → Prop}
    (fin : ∀ h', Heap.SameBut a s.heap h' → SetT w h' a T' fs.size → R (some true) { s with heap := h' }) :
    wpAny (model P w) A (do
        storeSet a fs tc
        if (!dum && tc.tooFull) = true then do
            gv (relayAll tc fs (SetTable.grown fs.size)).2.2
            storeSet a (relayAll tc fs (SetTable.grown fs.size)).1 (relayAll tc fs (SetTable.grown fs.size)).2.1
            pure (some true)
          else pure (some true)) R E s := by
  refine wpAny_bind (wpAny_storeSet_of got dat ?_ (fits_of_scanBound below))
  have got1 := store_at (es' := fs) (t' := tc) got dat
  have but1 := Heap.SameBut.update s.heap a (Obj.putSet fs tc)
  split
  · have z1 := relayAll_perm tc fs (SetTable.grown fs.size)
    have z2 := relayAll_fits tc fs (SetTable.grown fs.size)
    have z3 := relayAll_ris tc fs (SetTable.grown fs.size)
    have z4 := relayAll_led tc fs (SetTable.grown fs.size)
    generalize relayAll tc fs (SetTable.grown fs.size) = W at z1 z2 z3 z4 ⊢
    obtain ⟨gs, td, gave⟩ := W
    dsimp only at z1 z2 z3 z4 ⊢
    have size : gs.size = fs.size := by rw [← Array.length_toList, z1.length_eq, Array.length_toList]
    refine wpAny_bind (hgv _ _ _ ?_)
    refine wpAny_bind (wpAny_storeSet_of got1 rfl ?_ (fits_of_scanBound (by rw [size]; exact below)))
    have got2 := store_at (es' := gs) (t' := td) got1 rfl
    refine wpAny_pure (fin _ (but1.trans (Heap.SameBut.update _ a _)) ⟨_, gs, _, td, got2, ex, rfl, fun e he => ent e (z1.mem_iff.mp he), (z1.map txtOf).nodup_iff.mpr dis, fun x => (mem x).trans (z1.map txtOf).mem_iff.symm, by rw [size]; exact below, z2, size, z3, ?_⟩)
    exact led.imp id fun y => by rw [z4]; exact y
  · exact wpAny_pure (fin _ but1 ⟨_, fs, _, tc, got1, ex, rfl, ent, dis, mem, below, fit, rfl, ris, led⟩)
theorem add_txt {x : Str} {tk : Tok} {Q : Bool → Shared → Prop} (R : SetT w s.heap a T n) (room : n + 1 < scanBound)
    (q : ∀ h', Heap.SameBut a s.heap h' → SetT w h' a (fun y => T y || decide (y = x)) (if T x = true then n else n + 1) → Q (!T x) { s with heap := h' }) :
    wpAny (model P w) A (setAddHashed a (.str x tk) ((tkd P w).hash x)) Q E s := by
  obtain ⟨o, es, ep, tb, got, ex, dat, ent, dis, mem, below, fit, num, ris, led⟩ := R
  have key : (tkd P w).is x (.str x tk) = true := strKind_is P w x tk
  have sca : (Value.str x tk).scannable = true := rfl
  have els : ElemsOf (tkd P w) es.toList := txt_elems ent
  unfold setAddHashed; unfold setAddHashedIn
  refine wpAny_holding (wpAny_bind (wpAny_setState_of got dat fit ?_))
  dsimp only
  rw [byScan_of sca below els]
  simp only [↓reduceIte]
  unfold setAddByScan
  refine wpAny_bind (wpAny_bind (wpAny_rule ?_))
  refine wpAny_bind (wpAny_setScan_of key got dat fit els ?_)
  cases fi : List.findIdx? (fun e => (tkd P w).is x e.2) es.toList with
  | some j =>
    dsimp only
    obtain ⟨hj, pj, _⟩ := List.findIdx?_eq_some_iff_getElem.mp fi
    have yes : T x = true := (mem x).2 ((txt_mem (P := P) (w := w) ent x).2 ⟨es.toList[j], List.getElem_mem hj, pj⟩)
    have r := q s.heap (Heap.SameBut.refl a s.heap) ⟨o, es, ep, tb, got, ex, dat, ent, dis, fun y => by
      rw [Bool.or_eq_true, decide_eq_true_eq, ← mem y]
      exact ⟨fun z => z.elim id (fun e => e ▸ yes), .inl⟩, below, fit, by rw [if_pos yes]; exact num, ris, led⟩
    rw [yes] at r
    exact wpAny_pure (wpAny_pure r)
  | none =>
    dsimp only
    have absent : x ∉ es.toList.map txtOf := fun z => by
      obtain ⟨e, he, y⟩ := (txt_mem (P := P) (w := w) ent x).1 z
      have c := List.findIdx?_eq_none_iff.mp fi e he
      rw [y] at c
      cases c
    have no : T x = false := Bool.eq_false_iff.mpr fun z => absent ((mem x).1 z)
    have gw : ∀ (b : Bool) {t : Shared} {J : Unit → Shared → Prop}, J () t → wpAny (model P w) A (match b with | true => rule "set.scan.the-table-gave-way" | false => pure ()) J E t :=
      fun b t J j => by cases b <;> first | exact wpAny_pure j | exact wpAny_rule j
    have z1 := layNew_perm tb es ((tkd P w).hash x) (.str x tk)
    have z2 := layNew_fits tb es ((tkd P w).hash x) (.str x tk)
    have z3 := layNew_ris tb es ((tkd P w).hash x) (.str x tk) ris
    have z4 := layNew_led tb es ((tkd P w).hash x) (.str x tk)
    generalize layNew tb es ((tkd P w).hash x) (.str x tk) = W at z1 z2 z3 z4 ⊢
    obtain ⟨fs, tc, dum, gave⟩ := W
    dsimp only at z1 z2 z3 z4 ⊢
    rw [Array.toList_push] at z1
    have pc : fs.toList.Perm (((tkd P w).hash x, Value.str x tk) :: es.toList) := z1.trans (List.perm_append_singleton _ _)
    have pk : (fs.toList.map txtOf).Perm (x :: es.toList.map txtOf) := pc.map txtOf
    have ent1 : ∀ e ∈ fs.toList, TxtE w e := fun e he => (List.mem_cons.mp (pc.mem_iff.mp he)).elim (fun z => z ▸ ⟨x, tk, rfl, rfl⟩) (ent e)
    have dis1 : (fs.toList.map txtOf).Nodup := pk.nodup_iff.mpr (List.nodup_cons.mpr ⟨absent, dis⟩)
    have mem1 : ∀ y, (T y || decide (y = x)) = true ↔ y ∈ fs.toList.map txtOf := fun y => by
      rw [Bool.or_eq_true, decide_eq_true_eq, mem y, pk.mem_iff, List.mem_cons]
      exact Or.comm
    have size : fs.size = n + 1 := by rw [← Array.length_toList, pc.length_eq, List.length_cons, Array.length_toList, num]
    have below1 : fs.size < scanBound := by rw [size]; exact room
    have led1 : w.params.followText "set-order" = true ∨ tc.led = true := led.imp id fun z => by rw [z4]; exact z
    have fin : ∀ h', Heap.SameBut a s.heap h' → SetT w h' a (fun y => T y || decide (y = x)) fs.size → Q true { s with heap := h' } := fun h' sb r => by
      have j := q h' sb
      rw [no] at j
      rw [size] at r
      exact j r
    refine wpAny_bind (gw _ ?_)
    split
    · refine wpAny_bind ?_
      rw [hashByValue_scannable 8 sca]
      refine wpAny_pure (tail_txt ?_ got ex dat ent1 dis1 mem1 below1 ?_ ?_ ?_ ?_)
      · intro b t J j; cases b <;> first | exact wpAny_pure j | exact wpAny_rule j
      · first | (split <;> first | exact z2 | exact SetTable.fits_plain_off z2) | exact z2
      · first | (split <;> exact z3) | exact z3
      · first | (split <;> exact led1) | exact led1
      · intro h' sb r; dsimp only; exact wpAny_pure (fin h' sb r)
    · refine wpAny_bind (wpAny_pure ?_)
      simp only [↓reduceIte]
      refine tail_txt ?_ got ex dat ent1 dis1 mem1 below1 z2 z3 led1 ?_
      · intro b t J j; cases b <;> first | exact wpAny_pure j | exact wpAny_rule j
      · intro h' sb r; dsimp only; exact wpAny_pure (fin h' sb r)
theorem setT_new {h : Heap} {xs : List Str} (got : h.get? a = some (set0 w)) : SetT w h a (fun y => decide (y ∈ xs.take 0)) 0 :=
  ⟨_, #[], 0, _, got, ⟨rfl, rfl, rfl⟩, rfl, (fun e he => by simp at he), (by simp), (fun k => by simp), (by decide), (by rfl), rfl, List.Pairwise.nil, by
    show _ ∨ (!w.params.followText "set-order") = true
    cases w.params.followText "set-order"
    · exact .inr rfl
    · exact .inl rfl⟩
theorem sort_txts {n : Nat} {Q : Value → Shared → Prop} (R : SetT w s.heap a T n) (cool : A.handled = none)
    (q : ∀ t p (out : Array Value) (c : Nat) (ys : List Str), (∀ b o, s.heap.get? b = some o → t.heap.get? b = some o) → t.gens = s.gens → t.os = s.os → s.heap.objs.size ≤ p → t.heap.get? p = some (seqObj "list" out c) →
      StrsAre out.toList ys → sortedS ys = true → ys.Nodup → (∀ x, x ∈ ys ↔ T x = true) → ys.length = n → Q (.ref p) t) : wpAny (model P w) A (call (.builtin "sorted") [.ref a]) Q E s := by
  obtain ⟨o, es, ep, tb, got, ex, dat, ent, dis, mem, below, fit, num, ris, led⟩ := R
  refine Calls.call_function_entry kind_sorted plain_sorted entry_sorted (args_sorted1 _) ?_
  unfold Builtin.«sorted»
  refine wpAny_bind (m := checkCount "sorted" 1 1 _) (wpAny_pure (wpAny_bind ?_))
  refine collect_set (A := A.in1) cool ⟨o, got, ex.1, dat⟩ fit below ris led fun t vals keep big gens os perm => ?_
  have many : vals.length = n := by rw [perm.length_eq, List.length_map, Array.length_toList]; exact num
  have small : vals.length ≤ sizeLine := by
    rw [perm.length_eq, List.length_map, Array.length_toList]
    exact fits_of_scanBound below
  have txs : StrsAre vals (vals.map PyProof.Rows.strOf) := strsAre_map vals fun v hv => by
    obtain ⟨e, he, z⟩ := List.mem_map.mp (perm.mem_iff.mp hv)
    obtain ⟨x, tk, h1, _⟩ := ent e he
    exact ⟨x, tk, by rw [← z]; exact h1⟩
  have perm2 := perm.map PyProof.Rows.strOf
  rw [List.map_map] at perm2
  have et : es.toList.map (PyProof.Rows.strOf ∘ fun e => e.2) = es.toList.map txtOf := List.map_congr_left fun e he => by
    obtain ⟨x, tk, h1, _⟩ := ent e he
    show PyProof.Rows.strOf e.2 = txtOf e
    unfold txtOf
    rw [h1]
    rfl
  rw [et] at perm2
  refine wpAny_bind (wpAny_newList (wpAny_bind (wpAny_holding ?_)) small)
  have got2 : (t.heap.push (seqObj "list" vals.toArray 0)).get? t.heap.objs.size = some (seqObj "list" vals.toArray 0) := Heap.get?_push_size _ rfl
  refine wpAny_call_entry slot_list_sort ⟨_, got2, rfl⟩ entry_list_sort ?_ (args_list_sort _)
  refine list_sort_treeKAny strKind_oneLt got2 txs.keysOf (fun v1 v2 rest e => keyKind_strs (by rw [← e]; exact txs)) small fun st' hp hs => ⟨_, rfl, wpAny_pure ⟨_, rfl, ?_⟩⟩
  obtain ⟨ys, k1, k2, k3⟩ := sorted_out_str txs hp hs
  obtain ⟨c, got3⟩ := sortedHeap_at (vs := vals) (out := (arrOf st').map (·.2)) got2
  have pn := k2.trans perm2
  refine q _ t.heap.objs.size _ c ys (fun b u z => ?_) gens os big got3 k1 k3 (pn.nodup_iff.mpr dis) (fun x => pn.mem_iff.trans (mem x).symm) (by rw [pn.length_eq, List.length_map, Array.length_toList]; exact num)
  have z1 := keep b u z
  have z2 := Heap.lt_size z1
  show (sortedHeap (t.heap.push (seqObj "list" vals.toArray 0)) t.heap.objs.size vals ((arrOf st').map (·.2))).get? b = some u
  rw [sortedHeap_old (Nat.ne_of_lt z2) (by rw [size_push']; exact Nat.lt_succ_of_lt z2)]
  exact Heap.get?_push_of_some _ z1
end
/-- the set object -/
def SetTO (w : World) (a : Addr) (T : Str → Bool) (n : Nat) : HO := .ext fun h => SetT w h a T n
theorem setT_ok {w : World} {P : Program} {H : Hp} {h : Heap} {a : Addr} {T : Str → Bool} {n : Nat} (R : SetT w h a T n) : ObjOk P w H h a (SetTO w a T n) :=
  ⟨R, R.imp fun o z => by obtain ⟨_, _, _, g, _⟩ := z; exact g, fun h1 h2 p k => SetT.there p k⟩
section
variable {X : Cx}
def rSortT (w : World) : List V → Hp → VK → Prop := fun vs H Q => ∃ (a : Addr) (T : Str → Bool) (n : Nat), vs = [V.ref a] ∧ H a = some (SetTO w a T n) ∧ n ≤ 4000 ∧
  ∀ (ys : List Str) (p : Addr), sortedS ys = true → ys.Nodup → (∀ x, x ∈ ys ↔ T x = true) → H p = none → Q (.ref p) (upd H p (.lst (ys.map V.str)))
theorem cr_sortT (cool : X.calm = true) : CallR X (.builtin "sorted") (rSortT X.w) := by
  intro pins s σ H vs us Q I r h
  obtain ⟨a, T, n, rfl, ha, few, q⟩ := h
  rw [Vals.ref1 r]
  refine sort_txts (I.hok a _ ha).1 (I.ok.hd cool) fun t p out c ys keep gens os big got txs up dis mem many => ?_
  have free : H p = none := I.hok.fresh big
  have size : (ys.map V.str).length ≤ sizeLine := by rw [List.length_map, many, sizeLine_eq]; omega
  obtain ⟨th, tg, td, tt, to⟩ := t
  cases (show to = s.os from os)
  have keep' : ∀ b o, s.heap.get? b = some o → th.get? b = some o := keep
  have J := I.call (H' := upd H p (.lst (ys.map V.str))) (h' := th) (g' := tg) (d' := td) (t' := tt) (ch := []) (Un.laid keep' big free) (I.hok.laid keep' big ⟨size, out.toList, c, vals_of_strs txs, got⟩) (by rw [show tg = s.gens from gens]; exact I.bare) (fun _ z => nomatch z)
  exact ⟨.ref p, _, J, rfl, q ys p up dis mem free⟩
end
end CP

set_option Elab.async false
set_option linter.all false
set_option maxRecDepth 100000
set_option maxHeartbeats 4000000
set_option autoImplicit false
/-! == and != of equal data of any shape: lists, tuples, dicts -/
namespace CP
open PySem L2 PySem.Spec PyProof.Rows PySem.SeqAt
open MeetsSeq3 (plain_eq_loop entry_eq_loop)
section
variable {prog : Program} {w : World}
/-- != of two tuples whose items are equal -/
theorem tup_ne_same (l b : Addr) (us vs : Array Value) (m m2 : Nat) (dd dd2 : Option Addr) (sl sl2 : Array (Option Value)) (sz : us.size = vs.size) :
    MeetsIn prog w (Builtin.«tuple.__ne__» ⟨[.ref l, .ref b], []⟩)
      (fun A R s => s.heap.get? l = some { cls := .type "tuple", dict := dd, data := .seq us m, slots := sl } ∧ s.heap.get? b = some { cls := .type "tuple", dict := dd2, data := .seq vs m2, slots := sl2 } ∧
        (∀ j (h1 : j < us.size) (h2 : j < vs.size), EqP prog w A.in1 s us[j] vs[j] true) ∧ R (.ok (.ret (.bool false))) s) := by
  intro A R s h
  obtain ⟨hp, g, d, tk, os⟩ := s
  obtain ⟨hl, hb, he, h⟩ := h
  have f2 := AutoSeq1.sub_tuple_tuple
  have zl : (us.toList.zip vs.toList).length = us.size := by simp [sz]
  wp_walk using wpAny_loadPart' hl, wpAny_loadPart' hb, wpAny_forIn_list _ (fun rest b s' => b.1 = none ∧ s' = ⟨hp, g, d, tk, os⟩ ∧ ∃ i, rest = (us.toList.zip vs.toList).drop i) _
  case turn =>
    rintro ⟨y, x⟩ rest c s' ⟨hc, rfl, i, hz⟩
    have lt : i < (us.toList.zip vs.toList).length := by
      rcases Nat.lt_or_ge i (us.toList.zip vs.toList).length with k | k
      · exact k
      · rw [List.drop_of_length_le k] at hz; cases hz
    have l1 : i < us.size := zl ▸ lt
    have l2 : i < vs.size := sz ▸ l1
    rw [List.drop_eq_getElem_cons lt] at hz
    injection hz with hyx more
    have ey : y = us[i] := by simpa using congrArg Prod.fst hyx
    have ex : x = vs[i] := by simpa using congrArg Prod.snd hyx
    subst ey ex
    refine wpAny_bind (he i l1 l2 _ _ ?_)
    wp_walk
    exact ⟨rfl, rfl, i + 1, more⟩
  case fin =>
    rintro ⟨b1, b2⟩ s' ⟨hc, rfl, i, hz⟩
    simp only at hc
    subst hc
    wp_walk
    simpa [Builtin.Tuple.tupleCompareSizes, bne, sz] using h
  case h =>
    exact ⟨rfl, rfl, 0, rfl⟩
theorem rc_tup_ne {A : Around} {s : Shared} {l b : Addr} {us vs : Array Value} (hl : s.heap.IsTuple l us) (hb : s.heap.IsTuple b vs) (sz : us.size = vs.size) (hu : A.units < cLine)
    (he : ∀ j (h1 : j < us.size) (h2 : j < vs.size), EqP prog w A.in1 s us[j] vs[j] true) (E Q : Value → Shared → Prop) (h : Q (.bool false) s) : wpAny (model prog w) A (richCompare .NotEq (.ref l) (.ref b)) Q E s := by
  obtain ⟨⟨c1, d1, x1, s1⟩, o1, e1, m1, z1⟩ := id hl
  obtain ⟨⟨c2, d2, x2, s2⟩, o2, e2, m2, z2⟩ := id hb
  simp only at e1 z1 e2 z2
  subst e1 z1 e2 z2
  exact wpAny_richCompare_same_room (op := .NotEq) ⟨_, o1, rfl⟩ ⟨_, o2, rfl⟩ F.slot_tuple_ne (call_meetsIn F.slot_tuple_ne ⟨_, o1, rfl⟩ F.entry_tuple_ne (F.args_tuple_ne_2 _ _) (tup_ne_same l b us vs m1 m2 d1 d2 s1 s2 sz)
    ⟨o1, o2, he, show Value.bool false ≠ Value.notImplemented ∧ Q (.bool false) s from ⟨(fun x => nomatch x), h⟩⟩) hu
/-- the loop of two lists whose items are equal -/
theorem lst_ne_loop (l b : Addr) (us vs : Array Value) (m m2 : Nat) (dd dd2 : Option Addr) (sl sl2 : Array (Option Value)) (sz : us.size = vs.size) :
    ∀ k i : Nat, us.size - i = k → MeetsIn prog w (Builtin.«list.__eq__.loop» ⟨[.ref l, .ref b, rawInt i, rawInt 3], []⟩)
      (fun A R s => s.heap.get? l = some { cls := .type "list", dict := dd, data := .seq us m, slots := sl } ∧ s.heap.get? b = some { cls := .type "list", dict := dd2, data := .seq vs m2, slots := sl2 } ∧
        (∀ j (h1 : j < us.size) (h2 : j < vs.size), EqP prog w A.in1 s us[j] vs[j] true) ∧ R (.ok (.ret (.bool false))) s)
  | 0, i, hk => by
    intro A R s h
    obtain ⟨hp, g, d, tk, os⟩ := s
    obtain ⟨hl, hb, he, h⟩ := h
    wp_walk using wpAny_loadPart' hl, wpAny_loadPart' hb
    have q1 : us[((i : Nat) : Int).toNat]? = none := by simp; omega
    have q2 : vs[((i : Nat) : Int).toNat]? = none := by simp; omega
    rw [q1, q2]
    wp_walk using wpAny_loadPart' hl, wpAny_loadPart' hb
    show R (.ok (.ret (.bool (us.size != vs.size)))) _
    rw [sz]
    simpa using h
  | k + 1, i, hk => by
    intro A R s h
    obtain ⟨hp, g, d, tk, os⟩ := s
    obtain ⟨hl, hb, he, h⟩ := h
    wp_walk using wpAny_loadPart' hl, wpAny_loadPart' hb
    have l1 : i < us.size := by omega
    have l2 : i < vs.size := by omega
    have q1 : us[((i : Nat) : Int).toNat]? = some us[i] := by simp [l1]
    have q2 : vs[((i : Nat) : Int).toNat]? = some vs[i] := by simp [l2]
    have q3 : ((i : Int) + 1) = ((i + 1 : Nat) : Int) := by push_cast; rfl
    rw [q1, q2]
    refine wpAny_bind (he i l1 l2 _ _ ?_)
    wp_walk
    rw [q3]
    exact ⟨plainId_quiet plain_eq_loop _, codeAny_builtin entry_eq_loop (by
      rw [Around.under_plainId plain_eq_loop _]
      exact lst_ne_loop l b us vs m m2 dd dd2 sl sl2 sz k (i + 1) (by omega) A R _ ⟨hl, hb, he, h⟩)⟩
theorem lst_ne_same (l b : Addr) (us vs : Array Value) (m m2 : Nat) (dd dd2 : Option Addr) (sl sl2 : Array (Option Value)) (sz : us.size = vs.size) :
    MeetsIn prog w (Builtin.«list.__ne__» ⟨[.ref l, .ref b], []⟩)
      (fun A R s => s.heap.get? l = some { cls := .type "list", dict := dd, data := .seq us m, slots := sl } ∧ s.heap.get? b = some { cls := .type "list", dict := dd2, data := .seq vs m2, slots := sl2 } ∧
        (∀ j (h1 : j < us.size) (h2 : j < vs.size), EqP prog w A.in1 s us[j] vs[j] true) ∧ R (.ok (.ret (.bool false))) s) := by
  intro A R s h
  obtain ⟨hp, g, d, tk, os⟩ := s
  obtain ⟨hl, hb, he, h⟩ := h
  have f3 := AutoSeq1.sub_list_list
  have hne : ¬ (us.size != vs.size) = true := by simp [sz]
  wp_walk using wpAny_loadPart' hl, wpAny_loadPart' hb
  exact ⟨plainId_quiet plain_eq_loop _, codeAny_builtin entry_eq_loop (by
    rw [Around.under_plainId plain_eq_loop _]
    exact lst_ne_loop l b us vs m m2 dd dd2 sl sl2 sz _ 0 rfl A R _ ⟨hl, hb, he, h⟩)⟩
theorem rc_lst_ne {A : Around} {s : Shared} {l b : Addr} {us vs : Array Value} (hl : s.heap.IsList l us) (hb : s.heap.IsList b vs) (sz : us.size = vs.size) (hu : A.units < cLine)
    (he : ∀ j (h1 : j < us.size) (h2 : j < vs.size), EqP prog w A.in1 s us[j] vs[j] true) (E Q : Value → Shared → Prop) (h : Q (.bool false) s) : wpAny (model prog w) A (richCompare .NotEq (.ref l) (.ref b)) Q E s := by
  obtain ⟨⟨c1, d1, x1, s1⟩, o1, e1, m1, z1⟩ := id hl
  obtain ⟨⟨c2, d2, x2, s2⟩, o2, e2, m2, z2⟩ := id hb
  simp only at e1 z1 e2 z2
  subst e1 z1 e2 z2
  exact wpAny_richCompare_same_room (op := .NotEq) ⟨_, o1, rfl⟩ ⟨_, o2, rfl⟩ F.slot_list_ne (call_meetsIn F.slot_list_ne ⟨_, o1, rfl⟩ F.entry_list_ne (F.args_list_ne_2 _ _) (lst_ne_same l b us vs m1 m2 d1 d2 s1 s2 sz)
    ⟨o1, o2, he, show Value.bool false ≠ Value.notImplemented ∧ Q (.bool false) s from ⟨(fun x => nomatch x), h⟩⟩) hu
theorem rc_tup_eq {A : Around} {s : Shared} {l b : Addr} {us vs : Array Value} (hl : s.heap.IsTuple l us) (hb : s.heap.IsTuple b vs) (sz : us.size = vs.size) (hu : A.units < cLine)
    (he : ∀ j (h1 : j < us.size) (h2 : j < vs.size), EqP prog w A.in1 s us[j] vs[j] true) (E Q : Value → Shared → Prop) (h : Q (.bool true) s) : wpAny (model prog w) A (richCompare .Eq (.ref l) (.ref b)) Q E s :=
  GQ.rc_tupG sz hu (fun _ t => t = s) hl hb (fun i h1 h2 t e => by
    subst e
    exact he i h1 h2 E _ ⟨rfl, rfl⟩) (fun t e => by subst e; exact h) rfl
end
/-! equal values: of nesting below n -/
/-- two lists, two tuples of equal items; two dicts of the same keys whose values are equal -/
def SqR (K : PySem.W.Frag) (H : Hp) (E : V → V → Prop) (x y : V) : Prop :=
  (∃ a b xs ys, x = .ref a ∧ y = .ref b ∧ SqL K H a xs ∧ SqL K H b ys ∧ Paired E xs ys) ∨ (∃ a b xs ys, x = .ref a ∧ y = .ref b ∧ SqT K H a xs ∧ SqT K H b ys ∧ Paired E xs ys) ∨
    ∃ a b ks ls, x = .ref a ∧ y = .ref b ∧ H a = some (.dK ks) ∧ H b = some (.dK ls) ∧ ks.length = ls.length ∧ ∀ p ∈ ks, ∃ u, valV ls p.1 = some u ∧ E p.2 u
def SqV (K : PySem.W.Frag) (H : Hp) : Nat → V → V → Prop
  | 0 => fun _ _ => False
  | n + 1 => fun x y => (x = y ∧ flatB x = true) ∨ (∃ a, x = .ref a ∧ y = .ref a) ∨ SqR K H (SqV K H n) x y
section
variable {X : Cx} {pins : List (Addr × Obj)} {σ : L2.St} {H : Hp} {s : Shared}
theorem sqR_eq (I : Inv X pins σ H s) {A : Around} {F : V → V → Prop} (hu : A.units < cLine) (ih : ∀ x y v u, F x y → RelV x v → RelV y u → EqP X.prog X.w A.in1 s v u true) {x y : V} {v u : Value} (h : SqR X.K H F x y) (rx : RelV x v) (ry : RelV y u)
    (E Q : Value → Shared → Prop) (q : Q (.bool true) s) : wpAny (model X.prog X.w) A (richCompare .Eq v u) Q E s := by
  rcases h with h | ⟨a, b, xs, ys, rfl, rfl, ha, hb, hp⟩ | h
  · exact eqR_run I hu ih (.inl h) rx ry E Q q
  · cases (show v = Value.ref a from rx)
    cases (show u = Value.ref b from ry)
    obtain ⟨us, r1, p1, _⟩ := I.tuple ha
    obtain ⟨ws, r2, p2, _⟩ := I.tuple hb
    have sz : us.toArray.size = ws.toArray.size := by
      rw [List.size_toArray, List.size_toArray, ← r1.length, ← r2.length]
      exact Paired.length hp
    exact rc_tup_eq p1 p2 sz hu (fun j h1 h2 => by simpa using items_run ih hp r1 r2 j (by simpa using h1) (by simpa using h2)) E Q q
  · exact eqR_run I hu ih (.inr h) rx ry E Q q
theorem sqV_eq (I : Inv X pins σ H s) : ∀ (n : Nat) (A : Around), A.units + n < cLine → ∀ (x y : V) (v u : Value), SqV X.K H n x y → RelV x v → RelV y u → EqP X.prog X.w A s v u true
  | 0, _, _, _, _, _, _, h, _, _ => (show False from h).elim
  | n + 1, A, hu, x, y, v, u, h, rx, ry => by
    rcases h with ⟨rfl, f⟩ | ⟨a, rfl, rfl⟩ | h
    · exact (eqAt_same rx ry f).eqP
    · cases (show v = Value.ref a from rx)
      cases (show u = Value.ref a from ry)
      exact (EqAt.same _).eqP
    · have step := sqR_eq I (A := A) (by omega) (sqV_eq I n A.in1 (by show A.units + 1 + n < cLine; omega)) h rx ry
      obtain ⟨a, b, rfl, rfl⟩ : ∃ a b, x = .ref a ∧ y = .ref b := by
        rcases h with ⟨a, b, _, _, e1, e2, _⟩ | ⟨a, b, _, _, e1, e2, _⟩ | ⟨a, b, _, _, e1, e2, _⟩ <;> exact ⟨a, b, e1, e2⟩
      cases (show v = Value.ref a from rx)
      cases (show u = Value.ref b from ry)
      by_cases e : a = b
      · subst e
        exact (EqAt.same _).eqP
      · exact eqP_refs e step
end
section
variable {X : Cx}
/-- ==, != of equal lists and tuples -/
def rEqQ (K : PySem.W.Frag) : R2 := fun x y H Q => ∃ n, n ≤ 60 ∧ SqR K H (SqV K H n) x y ∧ Q (.bl true) H
def rNeQ (K : PySem.W.Frag) : R2 := fun x y H Q => ∃ n a b xs ys, n ≤ 60 ∧ x = .ref a ∧ y = .ref b ∧ ((SqL K H a xs ∧ SqL K H b ys) ∨ (SqT K H a xs ∧ SqT K H b ys)) ∧ Paired (SqV K H n) xs ys ∧ Q (.bl false) H
theorem op_eqQ (hu : X.A.units + 64 < cLine) : OpR X (compareOp .Eq) (rEqQ X.K) := by
  intro pins s σ H x y v u Q I rx ry h
  obtain ⟨n, hn, h, q⟩ := h
  exact sqR_eq I (A := X.A) (by omega) (sqV_eq I n X.A.in1 (by show X.A.units + 1 + n < cLine; omega)) h rx ry _ _ ⟨.bl true, H, I, rfl, q⟩
theorem op_neQ (hu : X.A.units + 64 < cLine) : OpR X (compareOp .NotEq) (rNeQ X.K) := by
  intro pins s σ H x y v u Q I rx ry h
  obtain ⟨n, a, b, xs, ys, hn, rfl, rfl, h, hp, q⟩ := h
  have ih := sqV_eq I n X.A.in1 (by show X.A.units + 1 + n < cLine; omega)
  cases (show v = Value.ref a from rx)
  cases (show u = Value.ref b from ry)
  have fin : (EP X pins σ Q) (.bool false) s := ⟨.bl false, H, I, rfl, q⟩
  rcases h with ⟨ha, hb⟩ | ⟨ha, hb⟩
  · obtain ⟨us, r1, p1, _⟩ := I.list ha
    obtain ⟨ws, r2, p2, _⟩ := I.list hb
    have sz : us.toArray.size = ws.toArray.size := by
      rw [List.size_toArray, List.size_toArray, ← r1.length, ← r2.length]
      exact Paired.length hp
    exact rc_lst_ne p1.isList p2.isList sz (by omega) (fun j h1 h2 => by simpa using items_run ih hp r1 r2 j (by simpa using h1) (by simpa using h2)) _ _ fin
  · obtain ⟨us, r1, p1, _⟩ := I.tuple ha
    obtain ⟨ws, r2, p2, _⟩ := I.tuple hb
    have sz : us.toArray.size = ws.toArray.size := by
      rw [List.size_toArray, List.size_toArray, ← r1.length, ← r2.length]
      exact Paired.length hp
    exact rc_tup_ne p1 p2 sz (by omega) (fun j h1 h2 => by simpa using items_run ih hp r1 r2 j (by simpa using h1) (by simpa using h2)) _ _ fin
/-- ==, != of any of these: plain values, data without dicts, equal data -/
def rEqX (K : PySem.W.Frag) : R2 := fun x y H Q => rEq x y H Q ∨ rEqD K x y H Q ∨ rEqQ K x y H Q
def rNeX (K : PySem.W.Frag) : R2 := fun x y H Q => rNe x y H Q ∨ rNeD K x y H Q ∨ rNeQ K x y H Q
theorem op_eqX (hu : X.A.units + 64 < cLine) : OpR X (compareOp .Eq) (rEqX X.K) := by
  intro pins s σ H x y v u Q I rx ry h
  rcases h with h | h | h
  · exact op_eq pins s σ H x y v u Q I rx ry h
  · exact op_eqD hu pins s σ H x y v u Q I rx ry h
  · exact op_eqQ hu pins s σ H x y v u Q I rx ry h
theorem op_neX (hu : X.A.units + 64 < cLine) : OpR X (compareOp .NotEq) (rNeX X.K) := by
  intro pins s σ H x y v u Q I rx ry h
  rcases h with h | h | h
  · exact op_ne pins s σ H x y v u Q I rx ry h
  · exact op_neD hu pins s σ H x y v u Q I rx ry h
  · exact op_neQ hu pins s σ H x y v u Q I rx ry h
end
section
variable {K : PySem.W.Frag} {H : Hp} {Q : VK} {a b : Str} {i j : Int}
theorem txt_dec : decide (V.str a = V.str b) = decide (a = b) := by
  by_cases h : a = b
  · subst h; simp
  · rw [decide_eq_false h, decide_eq_false fun z => h (V.str.inj z)]
theorem r_eqXS (q : Q (.bl (decide (a = b))) H) : rEqX K (.str a) (.str b) H Q := .inl ⟨rfl, by rw [txt_dec]; exact q⟩
theorem r_neXS (q : Q (.bl (!decide (a = b))) H) : rNeX K (.str a) (.str b) H Q := .inl ⟨rfl, by rw [txt_dec]; exact q⟩
theorem r_eqXI (q : Q (.bl (decide (i = j))) H) : rEqX K (.int i) (.int j) H Q := .inl (r_eqI q)
theorem r_neXI (q : Q (.bl (!decide (i = j))) H) : rNeX K (.int i) (.int j) H Q := .inl (r_neI q)
end
end CP

set_option Elab.async false
set_option linter.all false
set_option maxRecDepth 100000
set_option maxHeartbeats 4000000
set_option autoImplicit false
/-! texts in order; lists of texts as values -/
namespace CP
open L2 PySem PyProof.Rows
def sle (a b : Str) : Prop := ¬ (b.cps.toList < a.cps.toList)
instance (a b : Str) : Decidable (sle a b) := inferInstanceAs (Decidable (¬ _))
theorem sle_total (a b : Str) : sle a b ∨ sle b a := by
  by_cases h : b.cps.toList < a.cps.toList
  · exact .inr (List.lt_asymm h)
  · exact .inl h
theorem sle_trans {a b c : Str} (h1 : sle a b) (h2 : sle b c) : sle a c := by
  unfold sle at *
  rw [List.not_lt] at *
  exact List.le_trans h1 h2
theorem sle_anti {a b : Str} (h1 : sle a b) (h2 : sle b a) : a = b := by
  unfold sle at *
  rw [List.not_lt] at *
  have e := List.le_antisymm h1 h2
  cases a; cases b
  simp only at e
  rw [Array.toList_inj.mp e]
theorem rising_of : ∀ {l : List Str} {p : Str}, risingS p l = true → (p :: l).Pairwise sle
  | [], p, _ => List.pairwise_singleton _ _
  | x :: l, p, h => by
    unfold risingS at h
    rw [Bool.and_eq_true] at h
    have ih := rising_of h.2
    have hp : sle p x := by
      have := h.1
      rw [Bool.not_eq_true', ltCps_eq, decide_eq_false_iff_not] at this
      exact this
    refine List.pairwise_cons.mpr ⟨fun y hy => ?_, ih⟩
    rcases List.mem_cons.mp hy with e | e
    · rw [e]; exact hp
    · exact sle_trans hp (List.rel_of_pairwise_cons ih e)
theorem sorted_pw {l : List Str} (h : sortedS l = true) : l.Pairwise sle := by
  cases l with
  | nil => exact List.Pairwise.nil
  | cons x l => exact rising_of h
def insT (x : Str) : List Str → List Str
  | [] => [x]
  | y :: l => if sle x y then x :: y :: l else y :: insT x l
theorem insT_perm (x : Str) : ∀ l, (insT x l).Perm (x :: l)
  | [] => .refl _
  | y :: l => by
    unfold insT
    split
    · exact .refl _
    · exact ((insT_perm x l).cons y).trans (.swap ..)
theorem insT_pw (x : Str) : ∀ {l : List Str}, l.Pairwise sle → (insT x l).Pairwise sle
  | [], _ => List.pairwise_singleton _ _
  | y :: l, h => by
    have hh := List.pairwise_cons.mp h
    unfold insT
    split
    · rename_i e
      refine List.pairwise_cons.mpr ⟨fun z hz => ?_, h⟩
      rcases List.mem_cons.mp hz with r | r
      · rw [r]; exact e
      · exact sle_trans e (hh.1 z r)
    · rename_i e
      refine List.pairwise_cons.mpr ⟨fun z hz => ?_, insT_pw x hh.2⟩
      rcases List.mem_cons.mp ((insT_perm x l).mem_iff.mp hz) with r | r
      · rw [r]; exact (sle_total x y).resolve_left e
      · exact hh.1 z r
/-- in order: by insertion, so that the kernel can go through it -/
def srt (l : List Str) : List Str := l.foldr insT []
theorem srt_both (l : List Str) : (srt l).Perm l ∧ (srt l).Pairwise sle := by
  induction l with
  | nil => exact ⟨.refl _, .nil⟩
  | cons x l ih => exact ⟨(insT_perm x _).trans (ih.1.cons x), insT_pw x ih.2⟩
theorem srt_perm (l : List Str) : (srt l).Perm l := (srt_both l).1
theorem srt_pw (l : List Str) : (srt l).Pairwise sle := (srt_both l).2
theorem srt_unique {l m : List Str} (hp : l.Perm m) (h1 : l.Pairwise sle) (h2 : m.Pairwise sle) : l = m :=
  List.Perm.eq_of_pairwise (le := sle) (fun a b _ _ => sle_anti) h1 h2 hp
theorem srt_of {l ys : List Str} (hp : ys.Perm l) (h : sortedS ys = true) : ys = srt l := srt_unique (hp.trans (srt_perm l).symm) (sorted_pw h) (srt_pw l)
theorem srt_congr {l m : List Str} (h : l.Perm m) : srt l = srt m := srt_unique ((srt_perm l).trans (h.trans (srt_perm m).symm)) (srt_pw l) (srt_pw m)
theorem srt_len (l : List Str) : (srt l).length = l.length := (srt_perm l).length_eq
theorem mem_srt {l : List Str} {x : Str} : x ∈ srt l ↔ x ∈ l := (srt_perm l).mem_iff
theorem srt_id {l : List Str} (h : l.Pairwise sle) : srt l = l := srt_unique (srt_perm l) (srt_pw l) h
theorem srt_srt (l : List Str) : srt (srt l) = srt l := srt_id (srt_pw l)
/-- each once -/
def nub : List Str → List Str
  | [] => []
  | x :: l => if x ∈ l then nub l else x :: nub l
theorem mem_nub {l : List Str} {x : Str} : x ∈ nub l ↔ x ∈ l := by
  induction l with
  | nil => exact Iff.rfl
  | cons a l ih =>
    unfold nub
    split
    · rename_i h
      rw [ih, List.mem_cons]
      exact ⟨.inr, fun z => z.elim (fun e => e ▸ h) id⟩
    · rw [List.mem_cons, List.mem_cons, ih]
theorem nub_nodup (l : List Str) : (nub l).Nodup := by
  induction l with
  | nil => exact List.Pairwise.nil
  | cons a l ih =>
    unfold nub
    split
    · exact ih
    · rename_i h
      exact List.nodup_cons.mpr ⟨fun z => h (mem_nub.mp z), ih⟩
/-- sorted(set(l)) -/
def sset (l : List Str) : List Str := srt (nub l)
theorem mem_sset {l : List Str} {x : Str} : x ∈ sset l ↔ x ∈ l := mem_srt.trans mem_nub
theorem sset_nodup (l : List Str) : (sset l).Nodup := (srt_perm _).nodup_iff.mpr (nub_nodup l)
theorem sset_of {l ys : List Str} (h : sortedS ys = true) (hd : ys.Nodup) (hm : ∀ x, x ∈ ys ↔ x ∈ l) : ys = sset l :=
  srt_of ((List.perm_ext_iff_of_nodup hd (nub_nodup l)).mpr fun x => (hm x).trans mem_nub.symm) h
theorem sset_eq {l m : List Str} (hd : m.Nodup) (hp : m.Pairwise sle) (hm : ∀ x, x ∈ m ↔ x ∈ l) : m = sset l :=
  srt_unique (((List.perm_ext_iff_of_nodup hd (nub_nodup l)).mpr fun x => (hm x).trans mem_nub.symm).trans (srt_perm _).symm) hp (srt_pw _)
/-! lists of texts as values -/
def strL (l : List Str) : List V := l.map V.str
theorem strL_get {l : List Str} {i : Nat} {x : V} (h : (strL l)[i]? = some x) : ∃ n, l[i]? = some n ∧ x = .str n := by
  unfold strL at h
  rw [List.getElem?_map] at h
  cases e : l[i]? with
  | none => rw [e] at h; cases h
  | some n => rw [e] at h; exact ⟨n, rfl, (Option.some.inj h).symm⟩
theorem strL_len (l : List Str) : (strL l).length = l.length := List.length_map _
theorem strL_app (l m : List Str) : strL (l ++ m) = strL l ++ strL m := List.map_append
theorem strL_flat (l : List Str) : (strL l).all flatV = true := by
  unfold strL
  rw [List.all_map]
  exact List.all_eq_true.mpr fun _ _ => rfl
theorem inV_str (x : Str) (l : List Str) : inV (.str x) (strL l) = decide (x ∈ l) := by
  unfold inV strL
  induction l with
  | nil => rfl
  | cons a l ih =>
    rw [List.map_cons, List.any_cons, ih]
    show ((a == x) || _) = _
    by_cases e : a = x
    · subst e; simp
    · have e1 : (a == x) = false := by rw [beq_eq_false_iff_ne]; exact e
      rw [e1, Bool.false_or]
      simp [Ne.symm e]
/-! steps -/
abbrev oLenS : List V → Hp → VK → Prop := fun xs H Q => ∃ z, xs = [.str z] ∧ z.length ≤ sizeLine ∧ Q (.int z.length) H
section
variable {K : PySem.W.Frag} {σ : L2.St} {H : Hp} {Q : VK} {z : Str} {a b : Addr} {xs ys : List Str}
theorem r_lenS (h : z.length ≤ sizeLine) (q : Q (.int z.length) H) : oLenS [.str z] H Q := ⟨z, rfl, h, q⟩
theorem r_inS {c : Nat} (q : Q (.bl (decide (c ∈ z.cps.toList))) H) : rInS (.str ⟨#[c]⟩) (.str z) H Q := ⟨c, z, rfl, rfl, q⟩
theorem r_notInS {c : Nat} (q : Q (.bl (!decide (c ∈ z.cps.toList))) H) : rNotInS (.str ⟨#[c]⟩) (.str z) H Q := ⟨c, z, rfl, rfl, q⟩
theorem r_iStr {te : TE} {R : It → Hp → Prop} (q : te σ H fun v H1 => ∃ x, v = .str x ∧ R (Its x) H1) : iStr te σ H R := q
theorem r_strx {P : Str → Prop} (q : P z) : ∃ x, V.str z = .str x ∧ P x := ⟨z, rfl, q⟩
theorem r_chain {r r' : R2} {ta tb tc : TE} (q : ta σ H fun x H1 => tb σ H1 fun y H2 => r x y H2 fun v H3 => ∃ c, v = .bl c ∧ if c = true then tc σ H3 fun z H4 => r' y z H4 Q else Q (.bl false) H3) : tChain r r' ta tb tc σ H Q := q
theorem r_lc2 {P : Bool → Prop} {x : Bool} (q : P x) : ∃ c, V.bl x = .bl c ∧ P c := ⟨x, rfl, q⟩
/-! comparing -/
theorem dpA_strs : ∀ xs : List Str, DpAll K H (strL xs) (xs.map PyData.str)
  | [] => .nil
  | x :: xs => .cons (.str x) (dpA_strs xs)
theorem lay_strs (hs : ∀ x ∈ xs, (PyData.str x).canLay0 = true) : PyData.canLayAll0 (xs.map PyData.str) = true ∧ PyData.depthAll (xs.map PyData.str) = 0 := by
  induction xs with
  | nil => exact ⟨by simp [PyData.canLayAll0], by simp [PyData.depthAll]⟩
  | cons x xs ih =>
    obtain ⟨h1, h2⟩ := ih fun y hy => hs y (List.mem_cons_of_mem _ hy)
    refine ⟨by simp [PyData.canLayAll0, h1, hs x (List.mem_cons_self ..)], ?_⟩
    simp only [List.map_cons, PyData.depthAll, PyData.depth]
    omega
theorem eqv_strs : ∀ xs ys : List Str, PyData.eqvAll (xs.map PyData.str) (ys.map PyData.str) = decide (xs = ys)
  | [], [] => by simp [PyData.eqvAll]
  | [], _ :: _ => by simp [PyData.eqvAll]
  | _ :: _, [] => by simp [PyData.eqvAll]
  | a :: r, b :: t => by
    simp only [List.map_cons, PyData.eqvAll, PyData.eqv, eqv_strs r t]
    by_cases h : a = b <;> by_cases h' : r = t <;> simp [h, h']
theorem strs_eqX (h : SqL K H a (strL xs)) (h2 : SqL K H b (strL ys)) (hx : ∀ x ∈ xs, (PyData.str x).canLay0 = true) (hy : ∀ y ∈ ys, (PyData.str y).canLay0 = true) (q : Q (.bl (decide (xs = ys))) H) : rEqX K (.ref a) (.ref b) H Q := by
  obtain ⟨x1, x2⟩ := lay_strs hx
  obtain ⟨y1, y2⟩ := lay_strs hy
  refine .inr (.inl ⟨_, _, .lst h (dpA_strs xs), .lst h2 (dpA_strs ys), ?_, ?_, ?_⟩)
  · exact Bool.and_eq_true_iff.mpr ⟨by simp only [PyData.canLay0]; exact x1, decide_eq_true (by simp only [PyData.depth]; omega)⟩
  · exact Bool.and_eq_true_iff.mpr ⟨by simp only [PyData.canLay0]; exact y1, decide_eq_true (by simp only [PyData.depth]; omega)⟩
  · show Q (.bl (PyData.eqvAll (xs.map PyData.str) (ys.map PyData.str))) H
    rw [eqv_strs]
    exact q
theorem strs_neX (h : SqL K H a (strL xs)) (h2 : SqL K H b (strL ys)) (hx : ∀ x ∈ xs, (PyData.str x).canLay0 = true) (hy : ∀ y ∈ ys, (PyData.str y).canLay0 = true) (q : Q (.bl (!decide (xs = ys))) H) : rNeX K (.ref a) (.ref b) H Q := by
  obtain ⟨x1, x2⟩ := lay_strs hx
  obtain ⟨y1, y2⟩ := lay_strs hy
  refine .inr (.inl ⟨_, _, .lst h (dpA_strs xs), .lst h2 (dpA_strs ys), ?_, ?_, ?_⟩)
  · exact Bool.and_eq_true_iff.mpr ⟨by simp only [PyData.canLay0]; exact x1, decide_eq_true (by simp only [PyData.depth]; omega)⟩
  · exact Bool.and_eq_true_iff.mpr ⟨by simp only [PyData.canLay0]; exact y1, decide_eq_true (by simp only [PyData.depth]; omega)⟩
  · show Q (.bl (!PyData.eqvAll (xs.map PyData.str) (ys.map PyData.str))) H
    rw [eqv_strs]
    exact q
/-- two lists of any items, one of them empty: xs == [], xs != [] -/
theorem nil_eqX {vs : List V} (h : SqL K H a vs) (h2 : SqL K H b []) (hd : ∃ ds, DpAll K H vs ds ∧ PyData.canLayAll0 ds = true ∧ PyData.depthAll ds ≤ 60) (q : Q (.bl vs.isEmpty) H) : rEqX K (.ref a) (.ref b) H Q := by
  obtain ⟨ds, d1, d2, d3⟩ := hd
  refine .inr (.inl ⟨.list ds, .list [], .lst h d1, .lst h2 .nil, ?_, ?_, ?_⟩)
  · exact Bool.and_eq_true_iff.mpr ⟨by simp only [PyData.canLay0]; exact d2, decide_eq_true (by simp only [PyData.depth]; omega)⟩
  · decide +kernel
  · cases d1 with
    | nil => simpa [PyData.eqv, PyData.eqvAll] using q
    | cons _ _ => simpa [PyData.eqv, PyData.eqvAll] using q
theorem nil_neX {vs : List V} (h : SqL K H a vs) (h2 : SqL K H b []) (hd : ∃ ds, DpAll K H vs ds ∧ PyData.canLayAll0 ds = true ∧ PyData.depthAll ds ≤ 60) (q : Q (.bl (!vs.isEmpty)) H) : rNeX K (.ref a) (.ref b) H Q := by
  obtain ⟨ds, d1, d2, d3⟩ := hd
  refine .inr (.inl ⟨.list ds, .list [], .lst h d1, .lst h2 .nil, ?_, ?_, ?_⟩)
  · exact Bool.and_eq_true_iff.mpr ⟨by simp only [PyData.canLay0]; exact d2, decide_eq_true (by simp only [PyData.depth]; omega)⟩
  · decide +kernel
  · cases d1 with
    | nil => simpa [PyData.eqv, PyData.eqvAll] using q
    | cons _ _ => simpa [PyData.eqv, PyData.eqvAll] using q
theorem strs_dp (hx : ∀ x ∈ xs, (PyData.str x).canLay0 = true) : ∃ ds, DpAll K H (strL xs) ds ∧ PyData.canLayAll0 ds = true ∧ PyData.depthAll ds ≤ 60 :=
  ⟨_, dpA_strs xs, (lay_strs hx).1, by rw [(lay_strs hx).2]; decide⟩
end
end CP

set_option Elab.async false
set_option linter.all false
set_option maxRecDepth 100000
set_option maxHeartbeats 4000000
set_option autoImplicit false
/-! == and != of instances of a class with its own __eq__ (and no own __ne__) -/
namespace CP
open PySem L2 PySem.W PyProof.Rows
section
variable {prog : Program} {w : World} {A : Around} {E : Value → Shared → Prop} {s : Shared} {K : Frag} {x C L f : Addr} {h₀ : Heap} {m : Str → Option Value} {ox : Obj} {od : Option Obj} {b tb : Value}
theorem ne_bound (self : Value) : bindSpecial (.builtin "object.__ne__") self = pure (.builtin "object.__ne__", [self]) :=
  (Slot.of (T := "object") (name := "__ne__") (owner := "object") (n := "__ne__") (by rw [typeLookup_type, builtinLookup_eq_fast]; kernel_rfl) (by decide +kernel) (by decide +kernel) (by decide +kernel)
    (.inl (by decide +kernel)) (by rw [isSubtype_type]; kernel_rfl)).bind self
theorem bound_ne {M : Model} {args : List Value} {Q : Option Value → Shared → Prop} (X : K.In s.heap) (I : InstAt s.heap x ox C od) (hs : findIn K (.ref C) "__ne__" = some (some (.builtin "object.__ne__")))
    (h : wpAny M A (call (.builtin "object.__ne__") (.ref x :: args)) (fun v => Q (some v)) E s) : wpAny M A (callSpecialIfBound? (.ref x) "__ne__" args) Q E s := by
  simp only [callSpecialIfBound?, bindSpecialIfBound?]
  refine wpAny_holding (wpAny_bind (wpAny_bind (wpAny_bind (I.type.here ((looks_findIn X hs).here ?_)))))
  refine wpAny_bind (wpAny_askSetting (wpAny_ite ?_))
  have fin : wpAny M A (call (.builtin "object.__ne__") ([.ref x] ++ args) >>= fun v => pure (some v)) Q E s := wpAny_bind (wpAny_mono h (fun v s' z => wpAny_pure z) fun _ _ z => z)
  rw [ne_bound]
  split
  · exact wpAny_bind (wpAny_pure (wpAny_pure (by exact fin)))
  · exact wpAny_tryCatch (wpAny_bind (wpAny_pure (wpAny_pure (by exact fin))))
/-- what the own __eq__ answers, turned about -/
theorem object_ne {Q : Fin → Shared → Prop} (X : K.In s.heap) (I : InstAt s.heap x ox C od) (hu : A.units < cLine) (hs : findIn K (.ref C) "__eq__" = some (some (.ref f))) (hf : isFn K (.ref f) = true)
    (h : wpAny (model prog w) A (call (.ref f) [.ref x, b]) (fun v s' => ∃ c, v = .bool c ∧ Q (.done (.ret (.bool (!c)))) s') E s) : wpAny (model prog w) A (Builtin.«object.__ne__» ⟨[.ref x, b], []⟩) Q E s := by
  unfold Builtin.«object.__ne__»
  refine wpAny_bind (m := slotArgs "__ne__" 1 ⟨[.ref x, b], []⟩) (wpAny_pure ?_)
  refine wpAny_bind (wpAny_cRoomFor hu ?_)
  refine wpAny_bind (m := callSpecialIfBound? (.ref x) (Str.ofString "__eq__") [b]) (ifBound_K X I hs hf (wpAny_mono h (fun v s' z => ?_) fun _ _ z => z))
  obtain ⟨c, rfl, q⟩ := z
  exact wpAny_bind (m := truthy (.bool c)) (wpAny_truthy_bool (wpAny_pure q))
theorem cmp_ne {Q : Value → Shared → Prop} (hu : A.units + 1 < cLine) (F : Fr h₀ L s.heap m) (X₀ : K.In h₀) (I : InstAt s.heap x ox C od) (hb : Looks (model prog w) s.heap (typeOf b) tb) (hn : notFirst K C tb = true) (ho : subIn K (.ref C) (.type "object") = some true)
    (hne : findIn K (.ref C) "__ne__" = some (some (.builtin "object.__ne__"))) (hs : findIn K (.ref C) "__eq__" = some (some (.ref f))) (hf : isFn K (.ref f) = true)
    (h : wpAny (model prog w) A.in1 (call (.ref f) [.ref x, b]) (fun v s' => ∃ c, v = .bool c ∧ Q (.bool (!c)) s') E s) : wpAny (model prog w) A (richCompare .NotEq (.ref x) b) Q E s := by
  have X := X₀.keeps F.keep
  have one : wpAny (model prog w) A (tryCompare (.ref x) "__ne__" b) (fun r s' => ∃ v, r = some v ∧ Q v s') E s := by
    unfold tryCompare
    refine wpAny_bind (bound_ne X I hne (wpAny_call (codeAny_call_builtin (by decide +kernel) PySem.F.cmpEntry_ne
      (@check_slot (model prog w) _ _ _ "object.__ne__" "object" "__ne__" (.ref x) [b] [] _ PySem.F.cmpKind_ne PySem.F.cmpSplit_ne (I.type.andThen (looks_subIn X ho)) (PySem.F.cmpArgs_ne _ _) ?_))))
    refine object_ne (A := A.in1) X I hu hs hf (wpAny_mono h (fun v s' z => ?_) fun _ _ z => z)
    obtain ⟨c, rfl, q⟩ := z
    exact ⟨c, rfl, wpAny_pure ⟨_, rfl, q⟩⟩
  unfold richCompare
  simp only [oneThing_ref]
  refine wpAny_holding (wpAny_bind (wpAny_cRoomFor (Nat.lt_of_succ_lt hu) ?_))
  refine wpAny_bind (I.type.here (wpAny_bind (hb.here ?_)))
  have fin : wpAny (model prog w) A (tryCompare (.ref x) "__ne__" b) (fun r s' => wpAny (model prog w) A (match r with | some v => pure v | none => (do
      if let some v ← tryCompare b "__ne__" (.ref x) then return v
      pure (.bool (!(← isSame (.ref x) b))))) Q E s') E s := wpAny_mono one (fun r s' z => by
    obtain ⟨v, rfl, q⟩ := z
    exact wpAny_pure q) fun _ _ z => z
  split
  · rename_i q
    have e : subIn K tb (.ref C) = some false := by
      rcases Bool.or_eq_true_iff.mp hn with e | e
      · rw [beq_iff_eq.mp e] at q; simp at q
      · exact beq_iff_eq.mp e
    refine wpAny_bind ((looks_subIn X e).here ?_)
    simp only [Bool.false_eq_true, if_false]
    refine wpAny_bind (wpAny_mono one (fun r s' z => ?_) fun _ _ z => z)
    obtain ⟨v, rfl, hq⟩ := z
    exact wpAny_pure hq
  · refine wpAny_bind (wpAny_pure ?_)
    simp only [Bool.false_eq_true, if_false]
    refine wpAny_bind (wpAny_mono one (fun r s' z => ?_) fun _ _ z => z)
    obtain ⟨v, rfl, hq⟩ := z
    exact wpAny_pure hq
end
/-- what isinstance asks of a class -/
structure ClsI (K : Frag) (C : Addr) : Prop where
  cl : Cls K C
  at_ : findIn K (.ref C) "__class__" = some (some (.builtin "object.__class__"))
  sp : specialIn K (.builtin "object.__class__") "__get__" = some (some (.builtin "getset_descriptor.__get__"))
  tk : takesIn K (.builtin "object.__class__") = some true
  mro : mroIn K C (.type "object") = some true
/-- what has to be known of such a class -/
structure OwnEq (K : Frag) (C f : Addr) : Prop where
  eq : findIn K (.ref C) "__eq__" = some (some (.ref f))
  fn : isFn K (.ref f) = true
  ne : findIn K (.ref C) "__ne__" = some (some (.builtin "object.__ne__"))
  ob : subIn K (.ref C) (.type "object") = some true
section
variable {X : Cx} {CX : CXT} {k : Nat} {C f : Addr} {fd : FuncData} {ps : List Str} {sp : Sp} {E : XK}
def rEqO (C : Addr) (sp : Sp) (E : XK) : R2 := fun x y H Q => ∃ a b dx dy fs gs, x = .ref a ∧ y = .ref b ∧ H a = some (.ins C dx fs) ∧ H b = some (.ins C dy gs) ∧ sp [x, y] H (fun v H' => ∃ c, v = .bl c ∧ Q (.bl c) H') E
def rNeO (C : Addr) (sp : Sp) (E : XK) : R2 := fun x y H Q => ∃ a b dx dy fs gs, x = .ref a ∧ y = .ref b ∧ H a = some (.ins C dx fs) ∧ H b = some (.ins C dy gs) ∧ sp [x, y] H (fun v H' => ∃ c, v = .bl c ∧ Q (.bl (!c)) H') E
theorem op_neO (O : OwnEq X.K C f) (F : FnOk X.prog X.w X.K X.mg X.base CX k f fd ps sp) (hr : Room (k + 1) X.A) (hb : Binds X.K fd ps []) (hx : Passes CX X E) : OpR X (compareOp .NotEq) (rNeO C sp E) := by
  intro pins s σ H x y v u Q I rx ry h
  obtain ⟨a, b, dx, dy, fs, gs, rfl, rfl, ha, hb', pr⟩ := h
  cases rx
  cases ry
  obtain ⟨mA, J, _⟩ := ins_get I.hok ha
  obtain ⟨mB, J', _⟩ := ins_get I.hok hb'
  obtain ⟨o1, J, _⟩ := J.look
  obtain ⟨o2, J', _⟩ := J'.look
  obtain ⟨m, hF⟩ := I.fr
  have room : Room k X.A.in1 := hr.in1
  refine cmp_ne (tb := .ref C) (by have := hr.units; omega) hF I.ok.mod.kin J J'.type (by simp [notFirst]) O.ob O.ne O.eq O.fn ?_
  have e0 : Env0 X.prog X.w X.K X.mg X.base X.A.in1 X.stack s H := I.env0.in1
  have hl := F.len _ _ _ _ pr
  have r2 : Vals [V.ref a, V.ref b] [Value.ref a, Value.ref b] := .cons rfl (.cons rfl .nil)
  refine wpAny_call (codeAny_mono (F.run X.A.in1 X.stack s H ⟨[.ref a, .ref b], []⟩ [.ref a, .ref b] [.ref a, .ref b] _ E room e0 (by
    have z := hb s [.ref a, .ref b] I.kIn (by simpa using hl)
    simpa using z) r2 pr) fun r s' z => ?_)
  match r, z with
  | .error e, z => exact hx pins σ H s e s' I z
  | .ok (.ret t), z =>
    obtain ⟨zv, H', I', rz, c, ec, q⟩ := I.after z
    subst ec
    cases rz
    exact ⟨c, rfl, .bl (!c), H', I', rfl, q⟩
theorem op_eqO (O : OwnEq X.K C f) (F : FnOk X.prog X.w X.K X.mg X.base CX k f fd ps sp) (hr : Room (k + 1) X.A) (hb : Binds X.K fd ps []) (hx : Passes CX X E) : OpR X (compareOp .Eq) (rEqO C sp E) := by
  intro pins s σ H x y v u Q I rx ry h
  obtain ⟨a, b, dx, dy, fs, gs, rfl, rfl, ha, hb', pr⟩ := h
  cases rx
  cases ry
  obtain ⟨mA, J, _⟩ := ins_get I.hok ha
  obtain ⟨mB, J', _⟩ := ins_get I.hok hb'
  obtain ⟨o1, J, _⟩ := J.look
  obtain ⟨o2, J', _⟩ := J'.look
  obtain ⟨m, hF⟩ := I.fr
  refine cmp_K (op := .Eq) (tb := .ref C) hr.units0 hF I.ok.mod.kin J J'.type (by simp [notFirst]) O.eq O.fn ?_
  have hl := F.len _ _ _ _ pr
  have r2 : Vals [V.ref a, V.ref b] [Value.ref a, Value.ref b] := .cons rfl (.cons rfl .nil)
  refine wpAny_call (codeAny_mono (F.run X.A X.stack s H ⟨[.ref a, .ref b], []⟩ [.ref a, .ref b] [.ref a, .ref b] _ E (hr.mono (by omega)) I.env0 (by
    have z := hb s [.ref a, .ref b] I.kIn (by simpa using hl)
    simpa using z) r2 pr) fun r s' z => ?_)
  match r, z with
  | .error e, z => exact hx pins σ H s e s' I z
  | .ok (.ret t), z =>
    obtain ⟨zv, H', I', rz, c, ec, q⟩ := I.after z
    subst ec
    cases rz
    exact ⟨.bl c, H', I', rfl, q⟩
end
end CP

set_option Elab.async false
set_option linter.all false
set_option maxRecDepth 100000
set_option maxHeartbeats 4000000
set_option autoImplicit false
/-! plain tables as values: letters, products, sides, rows -/
namespace CP
open L2 PySem PyProof.Rows
def smallT : Str := "abcdefghijklmnopqrstuvwxyz"
def letB (z : Str) : Bool := decide (1 ≤ z.length ∧ z.length ≤ 10) && z.cps.toList.all fun c => decide (c ∈ smallT.cps.toList)
theorem small_low : ∀ c ∈ smallT.cps.toList, c < 0x110000 := by decide +kernel
theorem let_lay {z : Str} (h : letB z = true) : (PyData.str z).canLay0 = true := by
  unfold letB at h
  rw [Bool.and_eq_true] at h
  simp only [PyData.canLay0]
  show z.cps.all (· < 0x110000) = true
  rw [← Array.all_toList, List.all_eq_true]
  intro c hc
  exact decide_eq_true (small_low c (of_decide_eq_true (List.all_eq_true.mp h.2 c hc)))
theorem let_len {z : Str} (h : letB z = true) : 1 ≤ z.length ∧ z.length ≤ 10 := by
  unfold letB at h
  rw [Bool.and_eq_true] at h
  exact of_decide_eq_true h.1
abbrev Sd := Str × List Str × List Str
/-- a product of letters -/
def Lets (l : List Str) : Prop := (∀ x ∈ l, letB x = true) ∧ l.length ≤ 30
theorem Lets.lay {l : List Str} (h : Lets l) : ∀ x ∈ l, (PyData.str x).canLay0 = true := fun x hx => let_lay (h.1 x hx)
theorem Lets.perm {l m : List Str} (h : Lets l) (p : m.Perm l) : Lets m := ⟨fun x hx => h.1 x (p.mem_iff.mp hx), by rw [p.length_eq]; exact h.2⟩
/-- sides that make a table -/
structure Rows (rows : List Sd) : Prop where
  ne : rows ≠ []
  few : rows.length ≤ 20
  name : ∀ r ∈ rows, letB r.1 = true
  size : ∀ r ∈ rows, Lets r.2.1
  step : ∀ r ∈ rows, Lets r.2.2
  dis : (rows.map (·.1)).Nodup
  out : ∀ r ∈ rows, ∀ x ∈ r.2.1 ++ r.2.2, x ∉ rows.map (·.1)
def SideAt (H : Hp) (v : V) (r : Sd) : Prop := ∃ t a b, v = .ref t ∧ H t = some (.tup [.str r.1, .ref a, .ref b]) ∧ H a = some (.lst (strL r.2.1)) ∧ H b = some (.lst (strL r.2.2))
theorem SideAt.mono {H H' : Hp} {v : V} {r : Sd} (h : SideAt H v r) (s : Same H H') : SideAt H' v r := by
  obtain ⟨t, a, b, e, h1, h2, h3⟩ := h
  exact ⟨t, a, b, e, s _ _ h1, s _ _ h2, s _ _ h3⟩
def RowsAt (H : Hp) (p : Addr) (rows : List Sd) : Prop := ∃ vs, H p = some (.lst vs) ∧ Paired (SideAt H) vs rows
theorem RowsAt.mono {H H' : Hp} {p : Addr} {rows : List Sd} (h : RowsAt H p rows) (s : Same H H') : RowsAt H' p rows := by
  obtain ⟨vs, e, pr⟩ := h
  exact ⟨vs, s _ _ e, pd_mono pr fun _ _ z => SideAt.mono z s⟩
/-! as data -/
def sideD (r : Sd) : PyData := .tuple [.str r.1, .list (r.2.1.map .str), .list (r.2.2.map .str)]
theorem side_dp {K : PySem.W.Frag} {H : Hp} {v : V} {r : Sd} (h : SideAt H v r) : Dp K H v (sideD r) := by
  obtain ⟨t, a, b, rfl, h1, h2, h3⟩ := h
  exact .tup (.of h1) (.cons (.str _) (.cons (.lst (.of h2) (dpA_strs _)) (.cons (.lst (.of h3) (dpA_strs _)) .nil)))
theorem rows_dp {K : PySem.W.Frag} {H : Hp} {vs : List V} {rows : List Sd} (h : Paired (SideAt H) vs rows) : DpAll K H vs (rows.map sideD) := by
  induction h with
  | nil => exact .nil
  | cons h _ ih => exact .cons (side_dp h) ih
theorem side_lay {r : Sd} (h0 : (PyData.str r.1).canLay0 = true) (h1 : ∀ x ∈ r.2.1, (PyData.str x).canLay0 = true) (h2 : ∀ x ∈ r.2.2, (PyData.str x).canLay0 = true) : (sideD r).canLay0 = true ∧ (sideD r).depth = 2 := by
  obtain ⟨a1, a2⟩ := lay_strs h1
  obtain ⟨b1, b2⟩ := lay_strs h2
  have h0' := h0
  simp only [PyData.canLay0] at h0'
  refine ⟨by simp [sideD, PyData.canLay0, PyData.canLayAll0, a1, b1, h0'], ?_⟩
  simp only [sideD, PyData.depth, PyData.depthAll, a2, b2]
  rfl
theorem rows_lay {rows : List Sd} (h : ∀ r ∈ rows, (sideD r).canLay0 = true ∧ (sideD r).depth = 2) : PyData.canLayAll0 (rows.map sideD) = true ∧ PyData.depthAll (rows.map sideD) ≤ 2 := by
  induction rows with
  | nil => exact ⟨by simp [PyData.canLayAll0], by simp [PyData.depthAll]⟩
  | cons r rows ih =>
    obtain ⟨i1, i2⟩ := ih fun x hx => h x (List.mem_cons_of_mem _ hx)
    obtain ⟨a1, a2⟩ := h r (List.mem_cons_self ..)
    refine ⟨by simp [PyData.canLayAll0, a1, i1], ?_⟩
    simp only [List.map_cons, PyData.depthAll]
    omega
theorem Rows.lay {rows : List Sd} (h : Rows rows) : ∀ r ∈ rows, (sideD r).canLay0 = true ∧ (sideD r).depth = 2 := fun r hr => side_lay (let_lay (h.name r hr)) (h.size r hr).lay (h.step r hr).lay
theorem Rows.dp {K : PySem.W.Frag} {H : Hp} {vs : List V} {rows : List Sd} (h : Rows rows) (p : Paired (SideAt H) vs rows) : ∃ ds, DpAll K H vs ds ∧ PyData.canLayAll0 ds = true ∧ PyData.depthAll ds ≤ 60 :=
  ⟨_, rows_dp p, (rows_lay h.lay).1, Nat.le_trans (rows_lay h.lay).2 (by decide)⟩
section
variable {K : PySem.W.Frag} {H : Hp} {Q : VK} {a b : Addr} {xs ys : List Str} {vs : List V}
theorem nil_eqX0 (h : SqL K H a []) (h2 : SqL K H b []) (q : Q (.bl true) H) : rEqX K (.ref a) (.ref b) H Q := nil_eqX h h2 ⟨[], .nil, by decide +kernel, by decide +kernel⟩ q
theorem nil_neX0 (h : SqL K H a []) (h2 : SqL K H b []) (q : Q (.bl false) H) : rNeX K (.ref a) (.ref b) H Q := nil_neX h h2 ⟨[], .nil, by decide +kernel, by decide +kernel⟩ q
theorem r_inStr {x : Str} (h : SqL K H a (strL xs)) (q : Q (.bl (decide (x ∈ xs))) H) : rIn K false (.str x) (.ref a) H Q := r_in h rfl (strL_flat _) (by rw [inV_str]; exact q)
theorem r_niStr {x : Str} (h : SqL K H a (strL xs)) (q : Q (.bl (!decide (x ∈ xs))) H) : rIn K true (.str x) (.ref a) H Q := r_in h rfl (strL_flat _) (by rw [inV_str]; exact q)
end
/-! tables as objects -/
def TabAt (C : Addr) (H : Hp) (o : Addr) (rows : List Sd) : Prop := ∃ dx p, H o = some (.ins C dx [("row", .ref p)]) ∧ RowsAt H p rows
theorem TabAt.mono {C : Addr} {H H' : Hp} {o : Addr} {rows : List Sd} (h : TabAt C H o rows) (s : Same H H') : TabAt C H' o rows := by
  obtain ⟨dx, p, h1, h2⟩ := h
  exact ⟨dx, p, s _ _ h1, h2.mono s⟩
section
variable {K : PySem.W.Frag} {w : World} {σ : L2.St} {H : Hp} {Q : VK} {a o C dx : Addr} {l : List Str} {fs : List (Str × V)} {f : Str} {v : V} {te ta tv : TE} {tas : TA} {D : Ends}
theorem r_tfld (q : ta σ H fun x H1 => ∃ a C dx fs v, x = .ref a ∧ H1 a = some (.ins C dx fs) ∧ Cls K C ∧ NoAttr K C f ∧ fs.lookup f = some v ∧ Q v H1) : tFld K ta f σ H Q := q
theorem r_fget {P : V → Prop} (h : H o = some (.ins C dx fs)) (c : Cls K C) (n : NoAttr K C f) (l : fs.lookup f = some v) (q : P v) : ∃ a C dx fs v, V.ref o = .ref a ∧ H a = some (.ins C dx fs) ∧ Cls K C ∧ NoAttr K C f ∧ fs.lookup f = some v ∧ P v := ⟨o, C, dx, fs, v, rfl, h, c, n, l, q⟩
theorem r_sfld (q : tv σ H fun y H1 => ta σ H1 fun x H2 => ∃ a C dx fs, x = .ref a ∧ H2 a = some (.ins C dx fs) ∧ Cls K C ∧ NoAttr K C f ∧ fs.length < 1000 ∧ D.nx σ (upd H2 a (.ins C dx (putF f y fs)))) : sFld K ta tv f D σ H := q
theorem r_fput {N : Hp → Prop} (h : H o = some (.ins C dx fs)) (c : Cls K C) (n : NoAttr K C f) (l : fs.length < 1000) (q : ∀ H', SB o H H' → H' o = some (.ins C dx (putF f v fs)) → N H') : ∃ a C dx fs, V.ref o = .ref a ∧ H a = some (.ins C dx fs) ∧ Cls K C ∧ NoAttr K C f ∧ fs.length < 1000 ∧ N (upd H a (.ins C dx (putF f v fs))) :=
  ⟨o, C, dx, fs, rfl, h, c, n, l, q _ sb_upd upd_same⟩
theorem r_tmake {sp : Sp} {dvs : List V} {E : XK} (q : tas σ H fun vs H1 => ∀ x dx, H1 x = none → H1 dx = none → dx ≠ x → sp (.ref x :: (vs ++ dvs)) (upd (upd H1 dx (.own x)) x (.ins C dx [])) (fun v H2 => v = .non ∧ Q (.ref x) H2) E) : tMake C sp dvs E tas σ H Q := q
theorem r_tmeth {sp : Sp} {dvs : List V} {E : XK} {m : Str} (q : ta σ H fun x H1 => ∃ a dx fs, x = .ref a ∧ H1 a = some (.ins C dx fs) ∧ fs.lookup m = none ∧ tas σ H1 fun vs H2 => sp (x :: (vs ++ dvs)) H2 Q E) : tMeth C m sp dvs E ta tas σ H Q := q
end
section
variable {K : PySem.W.Frag} {H : Hp} {Q : VK} {o C dx : Addr} {fs : List (Str × V)}
theorem r_isiC (h : H o = some (.ins C dx fs)) (c : ClsI K C) (q : Q (.bl true) H) : rIsi K [.ref o, .ref C] H Q := ⟨.ref o, .ref C, .ref C, .ref C, true, rfl, .own C, .base (.ins h c.cl c.at_ c.sp c.tk c.mro), by simp [PySem.W.kitOne], q⟩
end
/-- all letters of the products, each one once, in order -/
def sizesM (rows : List Sd) : List Str := sset (rows.flatMap fun r => r.2.1 ++ r.2.2)
section
variable {K : PySem.W.Frag} {a : Addr} {g : TG} {tt : TT} {te : TE} {vs : List Nat} {σ : L2.St} {H1 : Hp} {D : Addr} {Qd : Hp → Prop}
/-- a comprehension over texts that leaves some out -/
theorem lc_strF {l : List Str} (p : Str → Bool) (hD : H1 D = none) (ha : SqL K H1 a (strL l)) (hz : l.length < sizeLine)
    (hs : ∀ (i : Nat) (x : Str) (H : Hp), l[i]? = some x → Same H1 H → Turn (β := V) g tt te vs σ (fun _ x b => x = b) D H (.str x) (if p x = true then some (.str x) else none)) (hd : ∀ H, Same H1 H → H D = some (.lst (strL (l.filter p))) → Qd H) :
    ∃ W : Nat → Nat → Hp → Prop, (∃ m, W 0 m (upd H1 D (.lst []))) ∧ ∀ i m H, W i m H →
      ((Itl K a).stop i H ∧ Qd H) ∨ ((Itl K a).go i H ∧ ∃ Nx : Hp → Prop, (∀ H', Nx H' → ∃ m', m' < m ∧ W (i + 1) m' H') ∧ ∀ x H', (Itl K a).yld i H x H' → g x (wipe σ vs) H' fun σ2 H2 => wipe σ2 vs = wipe σ vs ∧ tt σ2 H2 fun b H3 =>
        if b = true then te σ2 H3 fun y H4 => ∃ acc, H4 D = some (.lst acc) ∧ acc.length < sizeLine ∧ Nx (upd H4 D (.lst (acc ++ [y]))) else Nx H3) := by
  refine lc_tell (β := V) (fun _ x b => x = b) (l.map fun x => if p x = true then some (.str x) else none) hD ha (by rw [strL_len, List.length_map]) (by rw [List.length_map]; exact hz) (fun _ _ _ _ _ z => z) (fun i x o H hx ho s1 _ => ?_) fun H acc s1 hacc pp => ?_
  · obtain ⟨z, hz, rfl⟩ := strL_get hx
    have e : o = if p z = true then some (.str z) else none := by
      rw [List.getElem?_map, hz] at ho
      exact (Option.some.inj ho).symm
    subst e
    exact hs i z H hz s1
  · have e : acc = strL (l.filter p) := by
      rw [pd_eq pp, List.filterMap_map]
      clear pp hs hz ha hd
      induction l with
      | nil => rfl
      | cons x l ih =>
        by_cases c : p x = true
        · rw [List.filterMap_cons_some (b := V.str x) (by show (if p x = true then some (V.str x) else none) = _; rw [if_pos c]), ih, List.filter_cons_of_pos c]
          rfl
        · rw [List.filterMap_cons_none (by show (if p x = true then some (V.str x) else none) = _; rw [if_neg c]), ih, List.filter_cons_of_neg c]
    rw [e] at hacc
    exact hd H s1 hacc
end
end CP

set_option Elab.async false
set_option linter.all false
set_option maxRecDepth 100000
set_option maxHeartbeats 4000000
set_option autoImplicit false
/-! lists of texts: remove, count -/
namespace CP
open L2 PySem PySem.Spec PyProof.Rows
def isTxt (k : Str) : Value → Bool
  | .str z _ => z == k
  | _ => false
theorem txt_beq (x y : Str) : (x.cps.toList == y.cps.toList) = (x == y) := by
  rw [Bool.eq_iff_iff, beq_iff_eq, beq_iff_eq]
  refine ⟨fun h => ?_, fun h => congrArg (fun z : Str => z.cps.toList) h⟩
  cases x
  cases y
  exact congrArg Str.mk (Array.toList_inj.mp h)
theorem txt_gives {k : Str} {t : Tok} : ∀ {l : List Str} {us : List Value}, Vals (strL l) us → ∀ y ∈ us, MeetsSeq.EqGives y (.str k t) (isTxt k y)
  | [], _, .nil, y, hy => nomatch hy
  | z :: l, _, .cons (l₂ := us) ⟨tz, ez⟩ r, y, hy => by
    subst ez
    rcases List.mem_cons.mp hy with rfl | hy
    · have := PySem.SeqRoads2.EqGives.str z k tz t
      rw [txt_beq] at this
      exact this
    · exact txt_gives (l := l) r y hy
theorem txt_count {k : Str} : ∀ {l : List Str} {us : List Value}, Vals (strL l) us → us.countP (isTxt k) = l.count k
  | [], _, .nil => rfl
  | z :: l, _, .cons (l₂ := us) ⟨tz, ez⟩ r => by
    subst ez
    have ih := txt_count (k := k) (l := l) r
    rw [List.countP_cons, List.count_cons, ih]
    rfl
section
variable {X : Cx}
end
section
variable {K : PySem.W.Frag} {H : Hp} {Q : VK} {l : Addr} {ns : List Str} {xs : List V} {k : Str} {i : Int} {y : V}
end
end CP

set_option Elab.async false
set_option linter.all false
set_option maxRecDepth 100000
set_option maxHeartbeats 4000000
set_option autoImplicit false
/-! what the functions of plain compute -/
namespace CP
open L2 PySem PyProof.Rows
/-- a product taken out of another -/
def restOf : List Str → List Str → Option (List Str)
  | l, [] => some l
  | l, k :: o => if k ∈ l then restOf (l.erase k) o else none
/-- the first side's step times its size divides the second one's step -/
def aheadB (r s : Sd) : Bool := (restOf s.2.2 (r.2.1 ++ r.2.2)).isSome
/-- the sides laid one by one in their order -/
def ordGo : List Sd → List Sd → List Sd ⊕ (Sd × Sd)
  | found, [] => .inl found
  | found, r :: rs => if r.2.1 = [] then ordGo found rs else
      match found.filter fun f => !aheadB f r && !aheadB r f with
      | w :: _ => .inr (w, r)
      | [] => ordGo (found.take (found.filter fun f => aheadB f r).length ++ [r] ++ found.drop (found.filter fun f => aheadB f r).length) rs
def orderM (rows : List Sd) : List Sd ⊕ (Sd × Sd) := ordGo [] rows
section
variable {K : PySem.W.Frag} {a : Addr} {g : TG} {tt : TT} {te : TE} {vs : List Nat} {σ : L2.St} {H1 : Hp} {D : Addr} {Qd : Hp → Prop}
end
/-- the cell with one index alone -/
def loneM (rows : List Sd) (z : Str) (n : Int) : List Int := rows.map fun r => if r.1 = z then n else 0
/-- a letter that stands oftener in the first -/
def moreM (l o : List Str) : Option Str := l.find? fun k => decide (o.count k < l.count k)
def sharedGo : List Str → List Str → List Str
  | [], _ => []
  | k :: l, o => if k ∈ o then k :: sharedGo l (o.erase k) else sharedGo l o
def sharedM (l o : List Str) : List Str := sharedGo l o
def prodF (f : Str → Int) (l : List Str) : Int := l.foldl (fun a k => a * f k) 1
theorem prodF_app {f : Str → Int} {l : List Str} {k : Str} : prodF f (l ++ [k]) = prodF f l * f k := by
  unfold prodF
  rw [List.foldl_append]
  rfl
end CP

set_option Elab.async false
set_option linter.all false
set_option maxRecDepth 100000
set_option maxHeartbeats 4000000
set_option autoImplicit false
/-! dict comprehensions stored in a local name; over a list of texts -/
namespace CP
open L2 PySem PyProof.Rows
section
variable {X : Cx}
theorem swd_true {kx vx : Expr} {gs : List Comprehension} {scope : Scope} {pos py : Pos} {nm : Str} {l : Nat} {env : Env} (hf : env.scope.kind = .function) (hn : env.scope.names.lookup nm = some .local) (hl : (py.line == pos.line) = true)
    (no : (scope.names.any fun (n, k) => n == nm && (k == .local || k == .cell)) = false) : swapsWith (.DictComp kx vx gs scope pos) (some (.Name nm py)) l env = pure true := by
  have e1 : env.kindOf nm = some .local := hn
  have e2 : env.blockKind = .function := by
    unfold Env.blockKind
    rw [hf]
    rfl
  simp only [swapsWith, e2, e1, no, Expr.pos, hl]
  rfl
end
/-- a dict of numbers by letters -/
def dV (l : List (Str × Int)) : List (Key × V) := l.map fun p => (Sum.inr p.1, V.int p.2)
section
variable {K : PySem.W.Frag} {a : Addr} {g : TG} {tt : TT} {tk tv : TE} {vs : List Nat} {σ : L2.St} {H1 : Hp} {D : Addr} {Qd : Hp → Prop} {xs : List V}
end
/-- a value laid under a letter -/
def setD : List (Str × Int) → Str → Int → List (Str × Int)
  | [], k, n => [(k, n)]
  | p :: l, k, n => if p.1 = k then (k, n) :: l else p :: setD l k n
def getD : List (Str × Int) → Str → Option Int
  | [], _ => none
  | p :: l, k => if p.1 = k then some p.2 else getD l k
theorem dV_val : ∀ (l : List (Str × Int)) (k : Str), valV (dV l) (Sum.inr k) = (getD l k).map V.int
  | [], k => rfl
  | p :: l, k => by
    show valV ((Sum.inr p.1, V.int p.2) :: dV l) (Sum.inr k) = _
    unfold getD
    by_cases e : p.1 = k
    · rw [valV_pos (by rw [e]), if_pos e]; rfl
    · rw [valV_neg (fun z => e (by injection z)), if_neg e]; exact dV_val l k
theorem setD_keys : ∀ {l : List (Str × Int)} {k : Str} {n : Int}, k ∈ l.map (·.1) → (setD l k n).map (·.1) = l.map (·.1)
  | [], k, n, h => nomatch h
  | p :: l, k, n, h => by
    unfold setD
    by_cases e : p.1 = k
    · rw [if_pos e, List.map_cons, List.map_cons, e]
    · rw [if_neg e, List.map_cons, List.map_cons, setD_keys ((List.mem_cons.mp h).resolve_left (Ne.symm e))]
theorem setD_new : ∀ {l : List (Str × Int)} {k : Str} {n : Int}, k ∉ l.map (·.1) → setD l k n = l ++ [(k, n)]
  | [], k, n, h => rfl
  | p :: l, k, n, h => by
    unfold setD
    rw [if_neg (fun e => h (by rw [List.map_cons, e]; exact List.mem_cons_self ..)), setD_new (l := l) (fun z => h (List.mem_cons_of_mem _ z))]
    rfl
theorem getD_setD : ∀ (l : List (Str × Int)) (k j : Str) (n : Int), getD (setD l k n) j = if k = j then some n else getD l j
  | [], k, j, n => rfl
  | p :: l, k, j, n => by
    unfold setD
    by_cases e : p.1 = k
    · rw [if_pos e]
      unfold getD
      by_cases f : k = j
      · rw [if_pos f, if_pos f]
      · rw [if_neg f, if_neg f, if_neg (by rw [e]; exact f)]
    · rw [if_neg e]
      unfold getD
      by_cases f : p.1 = j
      · rw [if_pos f, if_pos f, if_neg (by rw [← f]; exact Ne.symm e)]
      · rw [if_neg f, if_neg f, getD_setD l k j n]
theorem dV_any (l : List (Str × Int)) (k : Str) : ((dV l).any fun kv => decide (kv.1 = (Sum.inr k : Key))) = decide (k ∈ l.map (·.1)) := by
  unfold dV
  rw [List.any_map]
  induction l with
  | nil => rfl
  | cons p l ih =>
    rw [List.any_cons, ih]
    show (decide ((Sum.inr p.1 : Key) = Sum.inr k) || _) = _
    by_cases e : p.1 = k
    · subst e; simp
    · have : ¬ ((Sum.inr p.1 : Key) = Sum.inr k) := fun z => e (by injection z)
      rw [decide_eq_false this]
      simp [Ne.symm e]
theorem dV_put (l : List (Str × Int)) (k : Str) (n : Int) (nd : (l.map (·.1)).Nodup) : putK (dV l) (Sum.inr k) (.int n) = dV (setD l k n) := by
  unfold putK
  rw [dV_any]
  by_cases h : k ∈ l.map (·.1)
  · rw [if_pos (decide_eq_true h)]
    induction l with
    | nil => cases h
    | cons p l ih =>
      unfold setD
      by_cases e : p.1 = k
      · rw [if_pos e]
        have nk : ∀ q ∈ l, q.1 ≠ k := fun q hq z => (List.pairwise_cons.mp nd).1 q.1 (List.mem_map.mpr ⟨q, hq, rfl⟩) (e.trans z.symm)
        subst e
        show _ :: _ = _ :: _
        congr 1
        · simp
        · clear ih h nd
          induction l with
          | nil => rfl
          | cons q l ih2 =>
            have i2 := ih2 fun q hq => nk q (List.mem_cons_of_mem _ hq)
            have n2 : ¬ ((Sum.inr q.1 : Key) = Sum.inr p.1) := fun z => nk q (List.mem_cons_self ..) (by injection z)
            show _ :: _ = _ :: _
            congr 1
            exact if_neg n2
      · rw [if_neg e]
        have n2 : ¬ ((Sum.inr p.1 : Key) = Sum.inr k) := fun z => e (by injection z)
        show _ :: _ = _ :: _
        congr 1
        · exact if_neg n2
        · exact ih (List.pairwise_cons.mp nd).2 ((List.mem_cons.mp h).resolve_left (Ne.symm e))
  · rw [if_neg (by simpa using h), setD_new h]
    unfold dV
    rw [List.map_append]
    rfl
theorem r_dc {wi : TI} {g : TG} {tt : TT} {tk tv : TE} {vs : List Nat} {σ : L2.St} {H : Hp} {Q : VK} (q : wi σ H fun J H1 => ∀ D, H1 D = none → ∃ W : Nat → Nat → Hp → Prop, (∃ m, W 0 m (upd H1 D (.dK []))) ∧ ∀ i m H, W i m H →
  (J.stop i H ∧ Q (.ref D) H) ∨ (J.go i H ∧ ∃ Nx : Hp → Prop, (∀ H', Nx H' → ∃ m', m' < m ∧ W (i + 1) m' H') ∧ ∀ x H', J.yld i H x H' → g x (wipe σ vs) H' fun σ2 H2 => wipe σ2 vs = wipe σ vs ∧ tt σ2 H2 fun b H3 =>
    if b = true then tk σ2 H3 fun y H4 => tv σ2 H4 fun z H5 => ∃ kvs k, y = kV k ∧ H5 D = some (.dK kvs) ∧ kvs.length < sizeLine ∧ Nx (upd H5 D (.dK (putK kvs k z))) else Nx H3)) : tDc wi g tt tk tv vs σ H Q := q
/-- values of 2 for all letters -/
def allTwo (l : List Str) : List (Str × Int) := l.map fun k => (k, 2)
/-- the first gap -/
def holeGo (szs : List Str) : List Str → List Sd → Option (List (Str × Int) × Int)
  | _, [] => none
  | due, r :: fs => if r.2.2 = due then holeGo szs (srt (r.2.1 ++ r.2.2)) fs else some (allTwo szs, prodF (fun _ => 2) due)
def holeM (szs : List Str) (fs : List Sd) : Option (List (Str × Int) × Int) := holeGo szs [] fs
theorem sizes_nd (rows : List Sd) : (sizesM rows).Nodup := sset_nodup _
section
variable {σ : L2.St} {H : Hp} {D : Ends} {tas : TA} {i j l : Nat}
theorem r_par3 (q : tas σ H fun vs H1 => ∃ u v w, vs = [u, v, w] ∧ D.nx (((σ.set i (some u)).set j (some v)).set l (some w)) H1) : tPar3 i j l tas D σ H := q
theorem r_three {u v w : V} {P : V → V → V → Prop} (q : P u v w) : ∃ x y z, [u, v, w] = [x, y, z] ∧ P x y z := ⟨u, v, w, rfl, q⟩
end
end CP

set_option Elab.async false
set_option linter.all false
set_option maxRecDepth 100000
set_option maxHeartbeats 4000000
set_option autoImplicit false
/-! two cells with the same place -/
namespace CP
open L2 PySem PyProof.Rows
/-- the value of a letter -/
def atD (v : List (Str × Int)) (k : Str) : Int := (getD v k).getD 0
/-- the letter's value is doubled until the size is greater -/
def grow (one second : List Str) (name : Str) : Nat → List (Str × Int) → List (Str × Int)
  | 0, v => v
  | n + 1, v => if prodF (atD v) one ≤ prodF (atD v) second then grow one second name n (setD v name (atD v name * 2)) else v
def setAll (v : List (Str × Int)) (ks : List Str) (n : Int) : List (Str × Int) := ks.foldl (fun v k => setD v k n) v
def clash2 (rows : List Sd) (vals : List (Str × Int)) (one other : Sd) (second : List Str) : Option (List (Str × Int) × List Int × List Int) :=
  match moreM one.2.1 second with
  | none => none
  | some name => some (grow one.2.1 second name 100 vals, loneM rows one.1 (prodF (atD (grow one.2.1 second name 100 vals)) second), loneM rows other.1 1)
def clashM (rows : List Sd) : Option (List (Str × Int) × List Int × List Int) :=
  match orderM rows with
  | .inl _ => none
  | .inr (one, other) =>
    match restOf one.2.2 (sharedM one.2.2 other.2.2), restOf other.2.2 (sharedM one.2.2 other.2.2) with
    | some first, some second =>
      if first ≠ [] then
        if second ≠ [] then some (setAll (setAll (allTwo (sizesM rows)) first (2 ^ second.length)) second (2 ^ first.length), loneM rows one.1 1, loneM rows other.1 1)
        else clash2 rows (allTwo (sizesM rows)) other one first
      else clash2 rows (allTwo (sizesM rows)) one other second
    | _, _ => none
theorem foldl_mul {f : Str → Int} : ∀ {l : List Str} {a : Int}, l.foldl (fun a k => a * f k) a = a * prodF f l
  | [], a => by unfold prodF; rw [List.foldl_nil, List.foldl_nil, Int.mul_one]
  | k :: l, a => by
    unfold prodF
    rw [List.foldl_cons, List.foldl_cons, foldl_mul, foldl_mul, Int.one_mul, Int.mul_assoc]
theorem prodF_cons {f : Str → Int} {k : Str} {l : List Str} : prodF f (k :: l) = f k * prodF f l := by
  show (k :: l).foldl (fun a k => a * f k) 1 = _
  rw [List.foldl_cons, foldl_mul, Int.one_mul]
/-- behind i doublings -/
def Grown (szs : List Str) (name : Str) (i : Nat) (v : List (Str × Int)) : Prop := v.map (·.1) = szs ∧ ∀ k ∈ szs, getD v k = some (if k = name then 2 ^ (i + 1) else 2)
theorem Grown.succ {szs : List Str} {name : Str} {i : Nat} {v : List (Str × Int)} (h : Grown szs name i v) (hn : name ∈ szs) : Grown szs name (i + 1) (setD v name (atD v name * 2)) := by
  refine ⟨by rw [setD_keys (by rw [h.1]; exact hn)]; exact h.1, fun k hk => ?_⟩
  rw [getD_setD]
  by_cases e : name = k
  · subst e
    rw [if_pos rfl, if_pos rfl]
    unfold atD
    rw [h.2 name hn, if_pos rfl]
    show some ((2 : Int) ^ (i + 1) * 2) = _
    rw [← Int.pow_succ]
  · rw [if_neg e, h.2 k hk, if_neg (Ne.symm e), if_neg (Ne.symm e)]
theorem Grown.at_ {szs : List Str} {name : Str} {i : Nat} {v : List (Str × Int)} (h : Grown szs name i v) {k : Str} (hk : k ∈ szs) : atD v k = 2 ^ (if k = name then i + 1 else 1) := by
  unfold atD
  rw [h.2 k hk]
  split <;> rfl
theorem Grown.prod {szs : List Str} {name : Str} {i : Nat} {v : List (Str × Int)} (h : Grown szs name i v) : ∀ {l : List Str}, (∀ k ∈ l, k ∈ szs) → prodF (atD v) l = 2 ^ (l.length + i * l.count name)
  | [], _ => rfl
  | k :: l, hl => by
    rw [prodF_cons, h.prod fun x hx => hl x (List.mem_cons_of_mem _ hx), h.at_ (hl k (List.mem_cons_self ..)), ← Int.pow_add, List.length_cons, List.count_cons]
    congr 1
    by_cases e : k = name
    · subst e
      rw [if_pos rfl]
      simp only [beq_self_eq_true, if_true, Nat.mul_add]
      omega
    · rw [if_neg e]
      have e1 : (k == name) = false := beq_eq_false_iff_ne.mpr e
      simp only [e1, Bool.false_eq_true, if_false, Nat.add_zero]
      omega
theorem two_lt {a b : Nat} (h : a < b) : (2 : Int) ^ a < 2 ^ b := by
  have := Nat.pow_lt_pow_right (a := 2) (by decide) h
  exact_mod_cast this
theorem Grown.ends {szs : List Str} {name : Str} {i : Nat} {v : List (Str × Int)} (h : Grown szs name i v) {l m : List Str} (hl : ∀ k ∈ l, k ∈ szs) (hm : ∀ k ∈ m, k ∈ szs) (c : m.count name < l.count name) (lm : m.length ≤ 12) (le : prodF (atD v) l ≤ prodF (atD v) m) : i ≤ 12 := by
  rw [h.prod hl, h.prod hm] at le
  refine Classical.byContradiction fun n => ?_
  have : m.length + i * m.count name < l.length + i * l.count name := by
    have : i * (m.count name + 1) ≤ i * l.count name := Nat.mul_le_mul_left _ c
    rw [Nat.mul_add, Nat.mul_one] at this
    omega
  have := two_lt this
  omega
theorem two_400 {a : Nat} (h : a ≤ 200) : (2 : Int) ^ a < 2 ^ 400 := two_lt (by omega)
theorem Grown.val {szs : List Str} {name k : Str} {i : Nat} {v : List (Str × Int)} (h : Grown szs name i v) (hk : k ∈ szs) (hi : i ≤ 13) : valV (dV v) (Sum.inr k) = some (.int (atD v k)) ∧ 0 ≤ atD v k ∧ atD v k < 2 ^ 400 := by
  refine ⟨?_, ?_, ?_⟩
  · rw [dV_val, h.2 k hk]
    unfold atD
    rw [h.2 k hk]
    rfl
  · rw [h.at_ hk]
    exact Int.le_of_lt (Int.pow_pos (by decide))
  · rw [h.at_ hk]
    exact two_400 (by split <;> omega)
theorem Grown.low {szs : List Str} {name : Str} {i : Nat} {v : List (Str × Int)} (h : Grown szs name i v) {l : List Str} (hl : ∀ k ∈ l, k ∈ szs) (ll : l.length ≤ 12) (hi : i ≤ 13) (j : Nat) : prodF (atD v) (l.take j) < 2 ^ 400 := by
  rw [h.prod fun k hk => hl k (List.mem_of_mem_take hk)]
  refine two_400 ?_
  have c : (l.take j).count name ≤ (l.take j).length := List.count_le_length
  have t : (l.take j).length ≤ 12 := by rw [List.length_take]; omega
  have : i * (l.take j).count name ≤ 13 * 12 := Nat.mul_le_mul hi (by omega)
  omega
/-- the cell at a place, side by side from the last one -/
def foundGo (f : Str → Int) : List Sd → List (Str × Int) × Int → List (Str × Int) × Int
  | [], a => a
  | r :: fs, a => foundGo f fs (setD a.1 r.1 (min (a.2 / prodF f r.2.2) (prodF f r.2.1 - 1)), a.2 - min (a.2 / prodF f r.2.2) (prodF f r.2.1 - 1) * prodF f r.2.2)
def foundM (rows fs : List Sd) (f : Str → Int) (n : Int) : Option (List Int) :=
  if (foundGo f fs.reverse ([], n)).2 = 0 then some (rows.map fun r => (getD (foundGo f fs.reverse ([], n)).1 r.1).getD 0) else none
/-! what is answered, as data -/
def OwnAt (rows : List Sd) (v : V) (H : Hp) : Prop := match orderM rows with
  | .inl fs => ∃ p, v = .ref p ∧ H p = some (.lst (strL (fs.map (·.1))))
  | .inr _ => v = .non
def ClashAt (rows : List Sd) (v : V) (H : Hp) : Prop := match clashM rows with
  | some (kv, c1, c2) => (kv.map (·.1)).Nodup ∧ ∃ t d x y, v = .ref t ∧ H t = some (.tup [.ref d, .ref x, .ref y]) ∧ H d = some (.dK (dV kv)) ∧ H x = some (.lst (c1.map V.int)) ∧ H y = some (.lst (c2.map V.int))
  | none => v = .non
def HoleAt (rows fs : List Sd) (v : V) (H : Hp) : Prop := match holeM (sizesM rows) fs with
  | some (kv, n) => (kv.map (·.1)).Nodup ∧ ∃ t d, v = .ref t ∧ H t = some (.tup [.ref d, .int n]) ∧ H d = some (.dK (dV kv))
  | none => v = .non
def CellAt (rows fs : List Sd) (f : Str → Int) (n : Int) (v : V) (H : Hp) : Prop := match foundM rows fs f n with
  | some c => ∃ p, v = .ref p ∧ H p = some (.lst (c.map V.int))
  | none => v = .non
end CP

set_option Elab.async false
set_option linter.all false
set_option maxRecDepth 100000
set_option maxHeartbeats 4000000
set_option autoImplicit false
/-! dicts that are walked: locked for that long -/
namespace CP
open L2 PySem PyProof.Rows
section
variable {K : PySem.W.Frag} {σ : L2.St} {H : Hp} {Q : VK} {d : Addr} {kvs : List (Key × V)} {t td : TE} {od : Obj} {z : Str} {v : V}
theorem r_lockE (h : H d = some (.dK kvs)) (q : ∀ od H1, H1 d = some (.frz od (.dK kvs)) → (∀ b o, b ≠ d → H b = some o → H1 b = some o) → (∀ H', Same H1 H' → Same H (upd H' d (.dK kvs))) → t σ H1 fun v H' => H' d = some (.frz od (.dK kvs)) ∧ Q v (upd H' d (.dK kvs))) : tLockE t σ H Q :=
  ⟨d, _, h, by trivial, fun od => q od _ upd_same (fun b o ne e => by rw [upd_ne ne]; exact e) fun H' s b o e => by
    by_cases ne : b = d
    · subst ne
      rw [h] at e
      rw [upd_same, e]
    · rw [upd_ne ne]
      exact s b o (by rw [upd_ne ne]; exact e)⟩
theorem r_iKeys {R : It → Hp → Prop} (q : td σ H fun x H1 => ∃ d o, x = .ref d ∧ ((∃ kvs, H1 d = some (.frz o (.dK kvs)) ∧ R (Itk d o kvs) H1) ∨ ∃ kvs, H1 d = some (.frz o (.dT kvs)) ∧ R (Itkt d o kvs) H1)) : iKeys td σ H R := q
theorem r_dgetF {P : V → Prop} (h : H d = some (.frz od (.dK kvs))) (e : valV kvs (Sum.inr z) = some v) (q : P v) : ∃ a v, V.ref d = .ref a ∧ DGet H a (.str z) (some v) ∧ P v :=
  ⟨d, v, rfl, .inl ⟨kvs, Sum.inr z, .inr ⟨od, h⟩, rfl, e.symm⟩, q⟩
end
section
variable {β : Type} {a : Addr} {od : Obj} {kvs : List (Key × V)} {g : TG} {tt : TT} {te : TE} {vs : List Nat} {σ : L2.St} {H1 : Hp} {D : Addr} {Qd : Hp → Prop}
theorem lc_keys (R : Hp → V → β → Prop) (ys : List (Option β)) (hD : H1 D = none) (ha : H1 a = some (.frz od (.dK kvs))) (hl : kvs.length = ys.length) (hz : ys.length < sizeLine) (mono : ∀ H H' v b, Same H H' → R H v b → R H' v b)
    (hs : ∀ (i : Nat) (k : Key) (v : V) (o : Option β) (H : Hp), kvs[i]? = some (k, v) → ys[i]? = some o → Same H1 H → (∃ acc, H D = some (.lst acc)) → Turn g tt te vs σ R D H (kV k) o)
    (hd : ∀ H acc, Same H1 H → H D = some (.lst acc) → Paired (R H) acc (ys.filterMap id) → Qd H) :
    ∃ W : Nat → Nat → Hp → Prop, (∃ m, W 0 m (upd H1 D (.lst []))) ∧ ∀ i m H, W i m H →
      ((Itk a od kvs).stop i H ∧ Qd H) ∨ ((Itk a od kvs).go i H ∧ ∃ Nx : Hp → Prop, (∀ H', Nx H' → ∃ m', m' < m ∧ W (i + 1) m' H') ∧ ∀ x H', (Itk a od kvs).yld i H x H' → g x (wipe σ vs) H' fun σ2 H2 => wipe σ2 vs = wipe σ vs ∧ tt σ2 H2 fun b H3 =>
        if b = true then te σ2 H3 fun y H4 => ∃ acc, H4 D = some (.lst acc) ∧ acc.length < sizeLine ∧ Nx (upd H4 D (.lst (acc ++ [y]))) else Nx H3) := by
  refine ⟨fun i m H => m = ys.length - i ∧ i ≤ ys.length ∧ Acc R H1 D ys i H, ⟨ys.length, by simp, Nat.zero_le _, acc_zero hD⟩, ?_⟩
  rintro i m H ⟨rfl, hi, p⟩
  have q := CP.Same.to p.1 ha
  by_cases lt : i < ys.length
  · refine .inr ⟨⟨q, by omega⟩, Acc R H1 D ys (i + 1), fun H' p' => ⟨ys.length - (i + 1), by omega, rfl, lt, p'⟩, fun x H' y => ?_⟩
    obtain ⟨rfl, k, v, hk, rfl⟩ := y
    exact turn_of mono hD hz p (List.getElem?_eq_getElem lt) (hs i k v _ _ hk (List.getElem?_eq_getElem lt) p.1 (p.2.imp fun _ z => z.1))
  · have e : i = ys.length := by omega
    subst e
    obtain ⟨s, acc, e, pr⟩ := acc_end mono p
    exact .inl ⟨⟨q, by omega⟩, hd H acc s e pr⟩
theorem lc_keysN (hD : H1 D = none) (ha : H1 a = some (.frz od (.dK kvs))) (hz : kvs.length < sizeLine)
    (hs : ∀ (i : Nat) (k : Key) (v : V) (H : Hp), kvs[i]? = some (k, v) → Same H1 H → Turn (β := V) g tt te vs σ (fun _ x b => x = b) D H (kV k) none) (hd : ∀ H, Same H1 H → H D = some (.lst []) → Qd H) :
    ∃ W : Nat → Nat → Hp → Prop, (∃ m, W 0 m (upd H1 D (.lst []))) ∧ ∀ i m H, W i m H →
      ((Itk a od kvs).stop i H ∧ Qd H) ∨ ((Itk a od kvs).go i H ∧ ∃ Nx : Hp → Prop, (∀ H', Nx H' → ∃ m', m' < m ∧ W (i + 1) m' H') ∧ ∀ x H', (Itk a od kvs).yld i H x H' → g x (wipe σ vs) H' fun σ2 H2 => wipe σ2 vs = wipe σ vs ∧ tt σ2 H2 fun b H3 =>
        if b = true then te σ2 H3 fun y H4 => ∃ acc, H4 D = some (.lst acc) ∧ acc.length < sizeLine ∧ Nx (upd H4 D (.lst (acc ++ [y]))) else Nx H3) := by
  refine lc_keys (β := V) (fun _ x b => x = b) (kvs.map fun _ => none) hD ha (by rw [List.length_map]) (by rw [List.length_map]; exact hz) (fun _ _ _ _ _ z => z) (fun i k v o H hk ho s1 _ => ?_) fun H acc s1 hacc pp => ?_
  · have e : o = none := by
      rw [List.getElem?_map, hk] at ho
      exact (Option.some.inj ho).symm
    subst e
    exact hs i k v H hk s1
  · have e : acc = [] := by
      rw [pd_eq pp]
      clear pp hs hz ha
      induction kvs with
      | nil => rfl
      | cons _ xs ih => exact ih
    subst e
    exact hd H s1 hacc
end
section
variable {K : PySem.W.Frag} {σ : L2.St} {H : Hp} {Q : VK} {te : TE} {a : Addr} {xs : List V}
theorem r_revL (q : te σ H fun x H1 => ∃ a xs, x = .ref a ∧ SqL K H1 a xs ∧ ∀ p, H1 p = none → Q (.ref p) (upd H1 p (.lst xs.reverse))) : tRevL K te σ H Q := q
end
theorem getD_mem : ∀ {l : List (Str × Int)} {p : Str × Int}, (l.map (·.1)).Nodup → p ∈ l → getD l p.1 = some p.2
  | a :: l, p, nd, h => by
    unfold getD
    rcases List.mem_cons.mp h with e | h
    · subst e; rw [if_pos rfl]
    · have ne : a.1 ≠ p.1 := fun e => (List.pairwise_cons.mp nd).1 p.1 (List.mem_map.mpr ⟨p, h, rfl⟩) e
      rw [if_neg ne]
      exact getD_mem (List.pairwise_cons.mp nd).2 h
theorem dV_get {l : List (Str × Int)} {i : Nat} {k : Key} {v : V} (h : (dV l)[i]? = some (k, v)) : ∃ p, p ∈ l ∧ k = Sum.inr p.1 ∧ v = .int p.2 := by
  unfold dV at h
  rw [List.getElem?_map] at h
  cases e : l[i]? with
  | none => rw [e] at h; cases h
  | some p =>
    rw [e] at h
    cases h
    exact ⟨p, List.mem_of_getElem? e, rfl, rfl⟩
end CP

set_option Elab.async false
set_option linter.all false
set_option maxRecDepth 100000
set_option maxHeartbeats 4000000
set_option autoImplicit false
/-! heaps in which one object or two may change; what the law draws -/
namespace CP
open L2 PySem PyProof.Rows
theorem Same.sb' {p : Addr} {H H' : Hp} (s : Same H H') : SB p H H' := fun b o _ e => s b o e
theorem SB.trans' {p : Addr} {H H1 H2 : Hp} (s : SB p H H1) (t : SB p H1 H2) : SB p H H2 := fun b o ne e => t b o ne (s b o ne e)
/-- new at q, then changed at q -/
theorem SB.fresh {p q : Addr} {H H1 H2 : Hp} (s : SB p H H1) (hq : H q = none) (t : SB q H1 H2) : SB p H H2 := fun b o ne e => t b o (fun z => by rw [z, hq] at e; cases e) (s b o ne e)
/-- the heap without two objects -/
def hid2 (p q : Addr) (H : Hp) : Hp := fun b => if b = p ∨ b = q then none else H b
theorem hid2_at {p q b : Addr} {H : Hp} {o : HO} (h : H b = some o) (n1 : b ≠ p) (n2 : b ≠ q) : hid2 p q H b = some o := by
  unfold hid2
  rw [if_neg (fun z => z.elim n1 n2)]
  exact h
/-- the letters that the law uses for sizes, for names -/
def sizeW : List Str := ["m", "n", "n", "mn", "p", "abc", "height", "nm"]
def nameW : List Str := ["r", "c", "z", "kk", "a", "page", "columnes", "abcdefghij"]
theorem sizeW_let : ∀ x ∈ sizeW, letB x = true := by decide +kernel
theorem nameW_let : ∀ x ∈ nameW, letB x = true := by decide +kernel
theorem sizeW_out : ∀ x ∈ sizeW, x ∉ nameW := by decide +kernel
/-- rows as the law draws them -/
structure Drawn (rows : List Sd) : Prop where
  name : ∀ r ∈ rows, r.1 ∈ nameW
  size : ∀ r ∈ rows, (∀ w ∈ r.2.1, w ∈ sizeW) ∧ r.2.1.length ≤ 3
  step : ∀ r ∈ rows, (∀ w ∈ r.2.2, w ∈ sizeW) ∧ r.2.2.length ≤ 6
theorem Drawn.rows {rows : List Sd} (h : Drawn rows) (ne : rows ≠ []) (nd : (rows.map (·.1)).Nodup) (few : rows.length ≤ 20) : Rows rows := by
  refine ⟨ne, few, fun r hr => nameW_let _ (h.name r hr), fun r hr => ⟨fun x hx => sizeW_let x ((h.size r hr).1 x hx), by have := (h.size r hr).2; omega⟩, fun r hr => ⟨fun x hx => sizeW_let x ((h.step r hr).1 x hx), by have := (h.step r hr).2; omega⟩, nd, fun r hr x hx m => ?_⟩
  obtain ⟨r2, h2, e⟩ := List.mem_map.mp m
  have xs : x ∈ sizeW := by
    rcases List.mem_append.mp hx with z | z
    · exact (h.size r hr).1 x z
    · exact (h.step r hr).1 x z
  exact sizeW_out x xs (by rw [← e]; exact h.name r2 h2)
/-- all but two stand -/
def SB2 (p q : Addr) (H H' : Hp) : Prop := ∀ b o, b ≠ p → b ≠ q → H b = some o → H' b = some o
theorem SB2.refl {p q : Addr} {H : Hp} : SB2 p q H H := fun _ _ _ _ e => e
theorem SB2.p {p q : Addr} {H H1 H2 : Hp} (s : SB2 p q H H1) (t : SB p H1 H2) : SB2 p q H H2 := fun b o n1 n2 e => t b o n1 (s b o n1 n2 e)
theorem SB2.q {p q : Addr} {H H1 H2 : Hp} (s : SB2 p q H H1) (t : SB q H1 H2) : SB2 p q H H2 := fun b o n1 n2 e => t b o n2 (s b o n1 n2 e)
theorem SideAt.at2 {p c : Addr} {H : Hp} {t a b : Addr} {r : Sd} (h1 : H t = some (.tup [.str r.1, .ref a, .ref b])) (h2 : H a = some (.lst (strL r.2.1))) (h3 : H b = some (.lst (strL r.2.2)))
    (n1 : t ≠ p) (n2 : t ≠ c) (n3 : a ≠ p) (n4 : a ≠ c) (n5 : b ≠ p) (n6 : b ≠ c) : SideAt (hid2 p c H) (.ref t) r := ⟨t, a, b, rfl, hid2_at h1 n1 n2, hid2_at h2 n3 n4, hid2_at h3 n5 n6⟩
theorem Drawn.add {rows : List Sd} (h : Drawn rows) {w : Str} {l m : List Str} (hw : w ∈ nameW) (hl : ∀ x ∈ l, x ∈ sizeW) (ll : l.length ≤ 3) (hm : ∀ x ∈ m, x ∈ sizeW) (ml : m.length ≤ 6) : Drawn (rows ++ [(w, l, m)]) := by
  have all : ∀ r ∈ rows ++ [(w, l, m)], r ∈ rows ∨ r = (w, l, m) := fun r hr => (List.mem_append.mp hr).imp id List.mem_singleton.mp
  refine ⟨fun r hr => ?_, fun r hr => ?_, fun r hr => ?_⟩
  · rcases all r hr with z | rfl
    · exact h.name r z
    · exact hw
  · rcases all r hr with z | rfl
    · exact h.size r z
    · exact ⟨hl, ll⟩
  · rcases all r hr with z | rfl
    · exact h.step r z
    · exact ⟨hm, ml⟩
section
variable {K : PySem.W.Frag} {a : Addr} {xs : List V} {g : TG} {tb : TS} {D : Ends} {σ : L2.St} {H : Hp} {ta : TA}
theorem r_iEnum {R : It → Hp → Prop} (q : ta σ H fun vs H1 => ∃ a xs, vs = [.ref a] ∧ SqL K H1 a xs ∧ R (Ite K a) H1) : iEnum K ta σ H R := q
end
/-- the step of the one times its size divides the step of the other -/
def Fits (r s : Sd) : Prop := ∀ w, (r.2.1 ++ r.2.2).count w ≤ s.2.2.count w
def Comp (r s : Sd) : Prop := Fits r s ∨ Fits s r
theorem r_makeK {C : Addr} {n m : Nat} {sp : Sp} {gV : List V → List V → List V} {E : XK} {t tk : TA} {σ : L2.St} {H : Hp} {Q : VK} (q : t σ H fun vs H1 => tk σ H1 fun zs H2 => vs.length = n ∧ zs.length = m ∧ ∀ x dx, H2 x = none → H2 dx = none → dx ≠ x →
  sp (gV (.ref x :: vs) zs) (upd (upd H2 dx (.own x)) x (.ins C dx [])) (fun v H3 => v = .non ∧ Q (.ref x) H3) E) : tMakeK C n m sp gV E t tk σ H Q := q
end CP
namespace CP
open L2 PySem PyProof.Rows
theorem OwnAt.mono {rows : List Sd} {v : V} {H H' : Hp} (h : OwnAt rows v H) (s : Same H H') : OwnAt rows v H' := by
  unfold OwnAt at *
  split at h
  · rename_i fs e
    obtain ⟨p, rfl, hp⟩ := h
    exact ⟨p, rfl, CP.Same.to s hp⟩
  · rename_i z e
    exact h
theorem ClashAt.mono {rows : List Sd} {v : V} {H H' : Hp} (h : ClashAt rows v H) (s : Same H H') : ClashAt rows v H' := by
  unfold ClashAt at *
  split at h
  · rename_i kv c1 c2 e
    obtain ⟨nd, t, d, x, y, rfl, h1, h2, h3, h4⟩ := h
    exact ⟨nd, t, d, x, y, rfl, CP.Same.to s h1, CP.Same.to s h2, CP.Same.to s h3, CP.Same.to s h4⟩
  · rename_i e
    exact h
theorem HoleAt.mono {rows fs : List Sd} {v : V} {H H' : Hp} (h : HoleAt rows fs v H) (s : Same H H') : HoleAt rows fs v H' := by
  unfold HoleAt at *
  split at h
  · rename_i kv n e
    obtain ⟨nd, t, d, rfl, h1, h2⟩ := h
    exact ⟨nd, t, d, rfl, CP.Same.to s h1, CP.Same.to s h2⟩
  · rename_i e
    exact h
theorem CellAt.mono {rows fs : List Sd} {f : Str → Int} {n : Int} {v : V} {H H' : Hp} (h : CellAt rows fs f n v H) (s : Same H H') : CellAt rows fs f n v H' := by
  unfold CellAt at *
  split at h
  · rename_i c e
    obtain ⟨p, rfl, h1⟩ := h
    exact ⟨p, rfl, CP.Same.to s h1⟩
  · rename_i e
    exact h
section
variable {K : PySem.W.Frag} {H : Hp} {Q : VK} {v v' : V} {rows fs : List Sd}
theorem non_ne (q : Q (.bl false) H) : rNeX K .non .non H Q := .inl (r_ne rfl (by rw [decide_eq_true rfl]; exact q))
end
end CP

set_option Elab.async false
set_option linter.all false
set_option maxRecDepth 100000
set_option maxHeartbeats 4000000
set_option autoImplicit false
/-! sides that stand in an order: their cells have places of their own -/
namespace CP
open L2 PySem PyProof.Rows
theorem Fits.trans {r s u : Sd} (h : Fits r s) (k : Fits s u) : Fits r u := fun w => by
  have h1 := h w
  have h2 := k w
  rw [List.count_append] at h1 h2 ⊢
  omega
theorem Fits.ne {r : Sd} (ne : r.2.1 ≠ []) : ¬ Fits r r := fun h => by
  obtain ⟨x, l, e⟩ := List.exists_cons_of_ne_nil ne
  have := h x
  rw [List.count_append, e, List.count_cons_self] at this
  omega
/-! values -/
theorem prodF_append {f : Str → Int} (l m : List Str) : prodF f (l ++ m) = prodF f l * prodF f m := by
  induction l with
  | nil => show prodF f m = 1 * _; rw [Int.one_mul]
  | cons x l ih => rw [List.cons_append, prodF_cons, prodF_cons, ih, Int.mul_assoc]
theorem prodF_perm {f : Str → Int} {l m : List Str} (p : l.Perm m) : prodF f l = prodF f m := by
  induction p with
  | nil => rfl
  | cons x _ ih => rw [prodF_cons, prodF_cons, ih]
  | swap x y l => rw [prodF_cons, prodF_cons, prodF_cons, prodF_cons, ← Int.mul_assoc, Int.mul_comm (f y), Int.mul_assoc]
  | trans _ _ i1 i2 => exact i1.trans i2
/-- a list's items as a function of the sides -/
def cf (rows : List Sd) (cell : List Int) : Sd → Int := fun r => (cell[rows.idxOf r]?).getD 0
theorem Rows.nd {rows : List Sd} (h : Rows rows) : rows.Nodup := List.Pairwise.of_map (·.1) (fun _ _ n e => n (by rw [e])) h.dis
/-- a cell within its sizes -/
def Cell (f : Str → Int) (rows : List Sd) (cell : List Int) : Prop := cell.length = rows.length ∧ ∀ r ∈ rows, 0 ≤ cf rows cell r ∧ cf rows cell r < prodF f r.2.1
/-! full tables -/
end CP

set_option Elab.async false
set_option linter.all false
set_option maxRecDepth 100000
set_option maxHeartbeats 4000000
set_option autoImplicit false
/-! cells as lists, their places -/
namespace CP
open L2 PySem PyProof.Rows
def intL (l : List Int) : List V := l.map V.int
def IntsAt (H : Hp) (v : V) (l : List Int) : Prop := ∃ a, v = .ref a ∧ H a = some (.lst (intL l))
theorem IntsAt.mono {H H' : Hp} {v : V} {l : List Int} (h : IntsAt H v l) (s : Same H H') : IntsAt H' v l := by
  obtain ⟨a, e, h1⟩ := h
  exact ⟨a, e, s _ _ h1⟩
def spotL (f : Str → Int) (rows : List Sd) (cell : List Int) : Int := ((rows.zip cell).map fun p => p.2 * prodF f p.1.2.2).sum
section
variable {β : Type} {K : PySem.W.Frag} {a : Addr} {g : TG} {tt : TT} {te : TE} {vs : List Nat} {σ : L2.St} {H1 : Hp} {D : Addr} {Qd : Hp → Prop}
end
/-- the values of letters are small -/
def Small (kv : List (Str × Int)) (ks : List Str) : Prop := ∀ k ∈ ks, (getD kv k).isSome = true ∧ 1 ≤ atD kv k ∧ atD kv k ≤ 2 ^ 13
theorem prodF_le13 {f : Str → Int} : ∀ {l : List Str}, (∀ k ∈ l, 1 ≤ f k ∧ f k ≤ 2 ^ 13) → 1 ≤ prodF f l ∧ prodF f l ≤ 2 ^ (13 * l.length)
  | [], _ => ⟨Int.le_refl 1, Int.le_refl 1⟩
  | k :: l, h => by
    obtain ⟨a, b⟩ := h k (List.mem_cons_self ..)
    obtain ⟨c, d⟩ := prodF_le13 (l := l) fun x hx => h x (List.mem_cons_of_mem _ hx)
    rw [prodF_cons, List.length_cons, Nat.mul_add, Nat.mul_one, Int.pow_add, Int.mul_comm]
    refine ⟨?_, Int.mul_le_mul d b (by omega) (Int.le_of_lt (Int.pow_pos (by decide)))⟩
    have := Int.mul_le_mul c a (by decide) (by omega)
    rwa [Int.mul_one] at this
theorem Small.sub {kv : List (Str × Int)} {ks js : List Str} (h : Small kv ks) (s : ∀ k ∈ js, k ∈ ks) : Small kv js := fun k hk => h k (s k hk)
theorem Small.low {kv : List (Str × Int)} {l : List Str} (h : Small kv l) (n : l.length ≤ 30) : (∀ k ∈ l, valV (dV kv) (Sum.inr k) = some (.int (atD kv k)) ∧ 0 ≤ atD kv k ∧ atD kv k < 2 ^ 400) ∧ (∀ i, i ≤ l.length → prodF (atD kv) (l.take i) < 2 ^ 400) ∧ 1 ≤ prodF (atD kv) l ∧ prodF (atD kv) l ≤ 2 ^ (13 * l.length) ∧ prodF (atD kv) l < 2 ^ 400 := by
  have b : ∀ k ∈ l, 1 ≤ atD kv k ∧ atD kv k ≤ 2 ^ 13 := fun k hk => (h k hk).2
  refine ⟨fun k hk => ?_, fun i _ => ?_, (prodF_le13 b).1, (prodF_le13 b).2, Int.lt_of_le_of_lt (prodF_le13 b).2 (two_lt (by omega))⟩
  · obtain ⟨c1, c2, c3⟩ := h k hk
    refine ⟨?_, by omega, Int.lt_of_le_of_lt c3 (two_lt (a := 13) (b := 400) (by omega))⟩
    rw [dV_val]
    unfold atD
    cases e : getD kv k with
    | none => rw [e] at c1; cases c1
    | some n => rfl
  · have := (prodF_le13 (l := l.take i) fun k hk' => b k (List.mem_of_mem_take hk')).2
    refine Int.lt_of_le_of_lt this (two_lt ?_)
    rw [List.length_take]
    omega
def ltrs (rows : List Sd) : List Str := rows.flatMap fun r => r.2.1 ++ r.2.2
theorem mem_ltrs {rows : List Sd} {k : Str} : k ∈ sizesM rows ↔ k ∈ ltrs rows := mem_sset
theorem Small.f1 {kv : List (Str × Int)} {rows : List Sd} (h : Small kv (ltrs rows)) : ∀ r ∈ rows, ∀ k ∈ r.2.1 ++ r.2.2, 1 ≤ atD kv k := fun r hr k hk => (h k (List.mem_flatMap.mpr ⟨r, hr, hk⟩)).2.1
end CP
namespace CP
open L2 PySem PyProof.Rows
end CP
namespace CP
open L2 PySem PyProof.Rows
end CP

set_option Elab.async false
set_option linter.all false
set_option maxRecDepth 100000
set_option maxHeartbeats 4000000
set_option autoImplicit false
/-! sorted(d.items()), d a dict of ints by ints -/
namespace CP
open L2 PySem PyProof.Rows

section
variable {P : Program} {w : World} {A : Around} {E : Value → Shared → Prop} {s : Shared}
end
section
variable {X : Cx} {e : Expr} {te : TE} {p apos cpos pos : Pos}
end
end CP

set_option Elab.async false
set_option linter.all false
set_option maxRecDepth 100000
set_option maxHeartbeats 4000000
set_option autoImplicit false
/-! data compared: lists of ints and of pairs of ints -/
namespace CP
open L2 PySem PyProof.Rows
section
variable {K : PySem.W.Frag} {H : Hp} {Q : VK}
/-! pairs -/
end
section
variable {K : PySem.W.Frag} {a : Addr} {g : TG} {tt : TT} {te : TE} {vs : List Nat} {σ : L2.St} {H1 : Hp} {D : Addr} {Qd : Hp → Prop}
end
end CP

set_option Elab.async false
set_option linter.all false
set_option maxRecDepth 100000
set_option maxHeartbeats 4000000
set_option autoImplicit false
/-! two cells with one place: that the ones told are right -/
namespace CP
open L2 PySem PyProof.Rows
/-! names apart -/
/-! cells with one index alone -/
/-! the values told -/
structure ClashOk (rows : List Sd) (kv : List (Str × Int)) (c1 c2 : List Int) : Prop where
  keys : kv.map (·.1) = sizesM rows
  small : Small kv (sizesM rows)
  one : Cell (atD kv) rows c1
  two : Cell (atD kv) rows c2
  ne : c1 ≠ c2
  spot : spotL (atD kv) rows c1 = spotL (atD kv) rows c2
  low : ∀ n, n ∈ c1 ∨ n ∈ c2 → -(2 ^ 200) < n ∧ n < 2 ^ 200
end CP
namespace CP
open L2 PySem PyProof.Rows
def oSortD : List V → Hp → VK → Prop := fun xs H Q => ∃ (a : Addr) (kvs : List (Key × V)) (ks : List Str), xs = [.ref a] ∧ Rd H a (.dK kvs) ∧ kvs.map (·.1) = ks.map Sum.inr ∧ ks.length < 64 ∧ ∀ ys p, ys.Perm ks → sortedS ys = true → H p = none → Q (.ref p) (upd H p (.lst (ys.map V.str)))
theorem cr_sortD {X : Cx} (hc : X.calm = true) : CallR X (.builtin "sorted") oSortD := call_sortedD hc
section
variable {K : PySem.W.Frag} {σ : L2.St} {H : Hp} {Q : VK} {ta : TE} {a b : Addr}
theorem r_neXB {x y : Bool} (q : Q (.bl (x != y)) H) : rNeX K (.bl x) (.bl y) H Q := .inl (r_neB q)
theorem r_eqXB {x y : Bool} (q : Q (.bl (x == y)) H) : rEqX K (.bl x) (.bl y) H Q := .inl (r_eqB q)
end
end CP
namespace CP
open L2 PySem PyProof.Rows
section
variable {H : Hp} {Q : VK} {a : Addr}
end
end CP

set_option Elab.async false
set_option linter.all false
set_option maxRecDepth 100000
set_option maxHeartbeats 4000000
set_option autoImplicit false
/-! rows while a purse is drawn from -/
namespace CP
open L2 PySem PyProof.Rows
section
variable {H H' : Hp} {p : Addr} {x y z : Int}
end
theorem Drawn.set {rows : List Sd} (h : Drawn rows) {j : Nat} {r : Sd} (hr : rows[j]? = some r) {l m : List Str} (hl : ∀ w ∈ l, w ∈ r.2.1) (ll : l.length ≤ r.2.1.length) (hm : ∀ w ∈ m, w ∈ r.2.2) (lm : m.length ≤ r.2.2.length) : Drawn (rows.set j (r.1, l, m)) := by
  have rm := List.mem_of_getElem? hr
  have all : ∀ u ∈ rows.set j (r.1, l, m), u ∈ rows ∨ u = (r.1, l, m) := fun u hu => List.mem_or_eq_of_mem_set hu
  refine ⟨fun u hu => ?_, fun u hu => ?_, fun u hu => ?_⟩
  · rcases all u hu with z | rfl
    · exact h.name u z
    · exact h.name r rm
  · rcases all u hu with z | rfl
    · exact h.size u z
    · exact ⟨fun w hw => (h.size r rm).1 w (hl w hw), by have := (h.size r rm).2; show l.length ≤ 3; omega⟩
  · rcases all u hu with z | rfl
    · exact h.step u z
    · exact ⟨fun w hw => (h.step r rm).1 w (hm w hw), by have := (h.step r rm).2; show m.length ≤ 6; omega⟩
theorem Drawn.perm {rows ss : List Sd} (h : Drawn rows) (p : ss.Perm rows) : Drawn ss := ⟨fun r hr => h.name r (p.mem_iff.mp hr), fun r hr => h.size r (p.mem_iff.mp hr), fun r hr => h.step r (p.mem_iff.mp hr)⟩
theorem Drawn.flat {rows : List Sd} (h : Drawn rows) (l : rows.length ≤ 8) : (rows.flatMap fun r => r.2.1).length ≤ 24 := by
  have : ∀ {l : List Sd}, (∀ r ∈ l, r.2.1.length ≤ 3) → (l.flatMap fun r => r.2.1).length ≤ 3 * l.length := by
    intro l
    induction l with
    | nil => intro _; exact Nat.zero_le _
    | cons r l ih =>
      intro hl
      have a := hl r (List.mem_cons_self ..)
      have b := ih fun x hx => hl x (List.mem_cons_of_mem _ hx)
      rw [List.flatMap_cons, List.length_append, List.length_cons]
      omega
  have := this fun r hr => (h.size r hr).2
  omega
theorem sizeW_few {l : List Str} (nd : l.Nodup) (h : ∀ x ∈ l, x ∈ sizeW) : l.length ≤ 8 := List.Nodup.length_le_of_subset nd h
theorem Drawn.sizes {rows : List Sd} (h : Drawn rows) : (sizesM rows).length ≤ 8 := sizeW_few (sizes_nd rows) fun x hx => by
  obtain ⟨r, hr, hw⟩ := List.mem_flatMap.mp (mem_ltrs.mp hx)
  exact (List.mem_append.mp hw).elim ((h.size r hr).1 x) ((h.step r hr).1 x)
end CP
namespace CP
open L2 PySem PyProof.Rows
end CP

set_option Elab.async false
set_option linter.all false
set_option maxRecDepth 100000
set_option maxHeartbeats 4000000
set_option autoImplicit false
/-! sides with any number of products -/
namespace CP
open L2 PySem PyProof.Rows
abbrev Ps := Str × List (List Str)
def TxtAt (H : Hp) (v : V) (l : List Str) : Prop := ∃ a, v = .ref a ∧ H a = some (.lst (strL l))
theorem TxtAt.mono {H H' : Hp} {v : V} {l : List Str} (h : TxtAt H v l) (s : Same H H') : TxtAt H' v l := by
  obtain ⟨a, e, h1⟩ := h
  exact ⟨a, e, s _ _ h1⟩
def PartAt (H : Hp) (v : V) (r : Ps) : Prop := ∃ t us, v = .ref t ∧ H t = some (.tup (.str r.1 :: us)) ∧ Paired (TxtAt H) us r.2
theorem PartAt.mono {H H' : Hp} {v : V} {r : Ps} (h : PartAt H v r) (s : Same H H') : PartAt H' v r := by
  obtain ⟨t, us, e, h1, h2⟩ := h
  exact ⟨t, us, e, s _ _ h1, pd_mono h2 fun _ _ z => z.mono s⟩
structure OkP (rows : List Ps) : Prop where
  ne : rows ≠ []
  few : rows.length ≤ 20
  name : ∀ r ∈ rows, letB r.1 = true
  part : ∀ r ∈ rows, ∀ l ∈ r.2, Lets l
  many : ∀ r ∈ rows, r.2.length ≤ 5
  dis : (rows.map (·.1)).Nodup
  out : ∀ r ∈ rows, ∀ l ∈ r.2, ∀ x ∈ l, x ∉ rows.map (·.1)
abbrev Bd := Str × List Str
def PairAt (H : Hp) (v : V) (b : Bd) : Prop := ∃ t a, v = .ref t ∧ H t = some (.tup [.str b.1, .ref a]) ∧ H a = some (.lst (strL b.2))
theorem PairAt.mono {H H' : Hp} {v : V} {b : Bd} (h : PairAt H v b) (s : Same H H') : PairAt H' v b := by
  obtain ⟨t, a, e, h1, h2⟩ := h
  exact ⟨t, a, e, s _ _ h1, s _ _ h2⟩
end CP

set_option Elab.async false
set_option linter.all false
set_option maxRecDepth 100000
set_option maxHeartbeats 4000000
set_option autoImplicit false
/-! full tables -/
namespace CP
open L2 PySem PyProof.Rows
/-! list.remove of data -/
def oDictD : List V → Hp → VK → Prop := fun xs H Q => ∃ (a : Addr) (kvs : List (Key × V)), xs = [.ref a] ∧ Rd H a (.dK kvs) ∧ ∀ p, H p = none → Q (.ref p) (upd H p (.dK kvs))
theorem r_dictD {H : Hp} {Q : VK} {a : Addr} {kvs : List (Key × V)} (h : H a = some (.dK kvs)) (q : ∀ p H', H p = none → Same H H' → H' p = some (.dK kvs) → Q (.ref p) H') : oDictD [.ref a] H Q := ⟨a, kvs, rfl, .inl h, fun p p0 => q p _ p0 (same_new p0) upd_same⟩
/-! dense -/
end CP

set_option Elab.async false
set_option linter.all false
set_option maxRecDepth 100000
set_option maxHeartbeats 4000000
set_option autoImplicit false
/-! dicts with tuple keys: walked by their values and by their pairs, compared, written -/
namespace CP
open L2 PySem PyProof.Rows
section
variable {X : Cx} {pins : List (Addr × Obj)} {σ : L2.St} {H : Hp} {s : Shared} {d : Addr} {o : Obj} {kvs : List (List Key × V)}
end
section
variable {P : Program} {w : World} {K : PySem.W.Frag} {tg : Expr} {d it : Addr} {o : Obj} {es : Array DictEntry} {ep : Nat} {kvs : List (List Key × V)}
end
section
variable {X : Cx} {tg e : Expr} {td : TE} {apos cpos : Pos}
theorem raw_noDict {h : Heap} {d : Addr} {es : Array DictEntry} {ep : Nat} (r : h.DictRaw d es ep) : ∀ b, Value.ref d = .ref b → ∃ ob, h.get? b = some ob ∧ ob.dict = none := by
  rintro b e
  cases e
  obtain ⟨ob, e, c, _⟩ := r
  exact ⟨ob, e, c.2.1⟩
end
end CP

set_option Elab.async false
set_option linter.all false
set_option maxRecDepth 100000
set_option maxHeartbeats 4000000
set_option autoImplicit false
/-! dict comprehensions whose keys may be tuples: the dict changes as DPut says -/
namespace CP
open L2 PySem PyProof.Rows
section
variable {X : Cx} {pins : List (Addr × Obj)} {σ : L2.St} {H H' : Hp} {s : Shared} {D : Addr} {y v : V} {u r : Value} {E : Value → Shared → Prop} {Q : Unit → Shared → Prop}
theorem dictSet_put (room : X.A.units < cLine) (I : Inv X pins σ H s) (g : DPut H D y v H') (ry : RelV y u) (rv : RelV v r) (h : ∀ s', Inv X pins σ H' s' → Q () s') : wpAny (model X.prog X.w) X.A (dictSet D u r) Q E s := by
  rcases g with ⟨kvs, k, e, ey, l, eH⟩ | ⟨kvs, k, b, e, ey, eb, l, eH⟩
  · cases ey; cases eH
    exact d_dictSet I e l ry rv h
  · cases ey; cases eH
    cases (show u = Value.ref b from ry)
    obtain ⟨few, sys, xs, rel, dd⟩ := dt_of I.hok e
    have few2 : xs.length ≤ sizeLine := by rw [← Paired.length rel]; exact few
    refine wpAny_dictSet_heap (hsz := few2) room (key_of I.hok eb) dd fun h2 dd2 sb => h _ ?_
    obtain ⟨q, es, ep, hq, g2, g3, g4, _, g5⟩ := dd2
    have more : (putK kvs k v).length ≤ sizeLine := by have := length_putK kvs k v; omega
    refine d_write I (by rw [e]; trivial) sb ⟨q, hq⟩ ⟨more, sys, _, (rel.put k eb rv).keeps fun c ys ec => ?_, q, es, ep, hq, g2, g3, g4, g5⟩
    rw [upd_ne fun z => by rw [z, e] at ec; cases ec]
    exact ec
end
/-- an empty dict, of either kind of key -/
inductive Emp : HO → Prop
  | k : Emp (.dK [])
  | t : Emp (.dT [])
theorem Emp.ok {P : Program} {w : World} {H : Hp} {o : HO} (e : Emp o) (h : Heap) (big : sysModules < h.objs.size) : ObjOk P w H (h.push { cls := .type "dict", data := .dict #[] }) h.objs.size o := by
  cases e with
  | k => exact dk_empty h big
  | t => exact dt_empty h big
section
variable {X : Cx}
end
end CP

set_option Elab.async false
set_option linter.all false
set_option maxRecDepth 100000
set_option maxHeartbeats 4000000
set_option autoImplicit false
/-! dicts with tuple keys: one pair written, two compared; the operators of an own class -/
namespace CP
open L2 PySem PyProof.Rows
/-! ### {k: v}, k a tuple -/
section
variable {X : Cx}
end
/-! ### operators of an own class between two of its instances -/
structure OwnOps (K : PySem.W.Frag) (C : Addr) : Prop where
  first : PySem.W.selfFirst K C = true
  noInt : PySem.W.kitOne K (.ref C) (.type "int") = some false
def rBinO (C : Addr) (sp : Sp) (E : XK) : R2 := fun x y H Q => ∃ a b dx dy fs gs, x = .ref a ∧ y = .ref b ∧ H a = some (.ins C dx fs) ∧ H b = some (.ins C dy gs) ∧ sp [x, y] H (fun v H' => ∃ p, v = .ref p ∧ Q (.ref p) H') E
section
variable {X : Cx} {CX : CXT} {k : Nat} {C f : Addr} {fd : FuncData} {ps : List Str} {sp : Sp} {E : XK} {nm : Str} {op : Operator}
theorem op_binO (en : PySem.dunder op.info.2 = nm) (O : OwnOps X.K C) (M : Meth X.K C nm f) (F : FnOk X.prog X.w X.K X.mg X.base CX k f fd ps sp) (hr : Room (k + 1) X.A) (hb : Binds X.K fd ps []) (hx : Passes CX X E) : OpR X (binaryOp op) (rBinO C sp E) := by
  intro pins s σ H x y v u Q I rx ry h
  obtain ⟨a, b, dx, dy, fs, gs, rfl, rfl, ha, hb', pr⟩ := h
  cases rx
  cases ry
  obtain ⟨mA, J, _⟩ := ins_get I.hok ha
  obtain ⟨mB, J', _⟩ := ins_get I.hok hb'
  obtain ⟨o1, J, _⟩ := J.look
  obtain ⟨o2, J', _⟩ := J'.look
  obtain ⟨m, hF⟩ := I.fr
  cases en
  refine PySem.W.binop_K (op := op) hF I.ok.mod.kin J J'.type O.first M.at_ M.fn ?_
  have hl := F.len _ _ _ _ pr
  have r2 : Vals [V.ref a, V.ref b] [Value.ref a, Value.ref b] := .cons rfl (.cons rfl .nil)
  refine wpAny_call (codeAny_mono (F.run X.A X.stack s H ⟨[.ref a, .ref b], []⟩ [.ref a, .ref b] [.ref a, .ref b] _ E (hr.mono (by omega)) I.env0 (by
    have z := hb s [.ref a, .ref b] I.kIn (by simpa using hl)
    simpa using z) r2 pr) fun r s' z => ?_)
  match r, z with
  | .error e, z => exact hx pins σ H s e s' I z
  | .ok (.ret t), z =>
    obtain ⟨zv, H', I', rz, p, ep, q⟩ := I.after z
    subst ep
    cases rz
    exact ⟨.ref p, H', I', rfl, q⟩
end
/-! ### two dicts with tuple keys and numbers compared -/
/-- the same pairs, in whatever order -/
def sameT (ks ls : List (List Key × V)) : Bool := decide (ks.length = ls.length) && ks.all fun p => decide (valV ls p.1 = some p.2)
section
variable {prog : Program} {w : World} {A : Around} {E : Value → Shared → Prop} {s : Shared}
/-- the values of the first found in the second, one by one -/
inductive HitsT (prog : Program) (w : World) (A : Around) (s : Shared) (kb : List (List Key × Addr × Value)) : List (List Key × Addr × Value) → Bool → Prop
  | nil : HitsT prog w A s kb [] true
  | miss {k : List Key} {p : Addr × Value} {r : List (List Key × Addr × Value)} : atKey kb k = none → HitsT prog w A s kb ((k, p) :: r) false
  | hit {k : List Key} {p q : Addr × Value} {r : List (List Key × Addr × Value)} {e b : Bool} : atKey kb k = some q → SeqAt.EqAt A s p.2 q.2 e → HitsT prog w A s kb r b → HitsT prog w A s kb ((k, p) :: r) (e && b)
theorem samePairsT {nm : String} {a b : Addr} {ka kb : List (List Key × Addr × Value)} {r : Bool} {Q : Bool → Shared → Prop} (room : A.units < cLine) (ha : (a == sysModules) = false) (hb : (b == sysModules) = false)
    (da : s.heap.DictOfH (tupleKind (mixKind prog w)) a ka) (db : s.heap.DictOfH (tupleKind (mixKind prog w)) b kb) (hits : ka.length = kb.length → HitsT prog w A s kb ka r) (h : Q (ka.length == kb.length && r) s) :
    wpAny (model prog w) A (Builtin.Dict.samePairs nm a b) Q E s := by
  obtain ⟨oa, es, ep, ga, _, ta, ea, isa, na⟩ := da
  obtain ⟨ob, fs, eq, gb, _, tb, eb, isb, nb⟩ := db
  have la : es.size = ka.length := size_of_entries ea
  have lb : fs.size = kb.length := size_of_entries eb
  unfold Builtin.Dict.samePairs Builtin.Dict.showsAll
  rw [if_neg (by rw [ha]; decide), if_neg (by rw [hb]; decide)]
  refine wpAny_bind (wpAny_pure (wpAny_bind (wpAny_pure (wpAny_bind (wpAny_dictEntries ga ta ?_)))))
  dsimp only
  refine wpAny_bind (wpAny_dictEntries gb tb ?_)
  by_cases sz : ka.length = kb.length
  · have h2 : Q r s := by simpa [sz] using h
    rw [if_neg (by rw [la, lb, sz]; simp)]
    refine wpAny_bind (wpAny_dictEpoch ga ta (wpAny_bind ?_))
    rw [Std.Legacy.Range.forIn_eq_forIn_range']
    simp only [Std.Legacy.Range.size, Nat.sub_zero, Nat.add_sub_cancel, Nat.div_one]
    refine wpAny_forIn_list _ (fun rest q s' => s' = s ∧ q = (none, ()) ∧ ∃ i, rest = List.range' i (es.size - i) ∧ i ≤ es.size ∧ HitsT prog w A s kb (ka.drop i) r) _ ?_ ?_ _ _ ⟨rfl, rfl, 0, by simp, Nat.zero_le _, hits sz⟩
    · rintro x rest q s' ⟨rfl, rfl, i, er, hi, ht⟩
      have lt : i < es.size := by
        rcases Nat.lt_or_ge i es.size with z | z
        · exact z
        · rw [Nat.sub_eq_zero_of_le z] at er; cases er
      rw [show es.size - i = (es.size - (i + 1)) + 1 by omega, List.range'_succ] at er
      obtain ⟨rfl, rfl⟩ := List.cons.inj er
      obtain ⟨⟨k, p⟩, hk⟩ : ∃ y, ka[x]? = some y := ⟨_, List.getElem?_eq_getElem (by omega)⟩
      have en : es[x]? = some (entryOfKey (tupleKind (mixKind prog w)) (k, p)) := by rw [entry_at ea x, hk]; rfl
      have dr : ka.drop x = (k, p) :: ka.drop (x + 1) := by
        obtain ⟨hx, e⟩ := List.getElem?_eq_some_iff.mp hk
        rw [← e]
        exact List.drop_eq_getElem_cons hx
      rw [dr] at ht
      refine wpAny_bind (wpAny_dictEntries ga ta ?_)
      rw [en]
      show wpAny _ _ (holding [Value.ref p.1, p.2] _ >>= _) _ _ _
      refine wpAny_bind (wpAny_holding (wpAny_bind ?_))
      have key := isa (k, p) (List.mem_of_getElem? hk)
      refine wpAny_dictFind_heap (knd := tupleKind (mixKind prog w)) (xs := kb) room key gb tb eb isb nb (fun none_ => ?_) fun j q hj => ?_
      · have no := atKey_none_of_get none_
        generalize eL : (k, p) :: ka.drop (x + 1) = L at ht
        cases ht with
        | nil => cases eL
        | miss _ =>
          refine wpAny_pure ?_
          show wpAny _ _ (if (!false) = true then _ else _) _ _ _
          rw [if_pos (by decide)]
          exact wpAny_pure (wpAny_pure h2)
        | hit e1 _ _ =>
          cases eL
          rw [no] at e1
          cases e1
      · have yes := atKey_of_get nb hj
        refine wpAny_bind (wpAny_dictEntries gb tb ?_)
        rw [entry_at eb j, hj]
        generalize eL : (k, p) :: ka.drop (x + 1) = L at ht
        cases ht with
        | nil => cases eL
        | miss e1 =>
          cases eL
          rw [yes] at e1
          cases e1
        | @hit _ _ _ _ e b2 e1 e2 e3 =>
          cases eL
          rw [yes] at e1
          cases e1
          refine wpAny_holding (e2 prog w _ _ ?_)
          cases e with
          | false =>
            rw [Bool.false_and] at h2
            show wpAny _ _ (if (!false) = true then _ else _) _ _ _
            rw [if_pos (by decide)]
            exact wpAny_pure (wpAny_pure h2)
          | true =>
            show wpAny _ _ (if (!true) = true then _ else _) _ _ _
            rw [if_neg (by decide)]
            refine wpAny_bind (wpAny_dictEpoch ga ta ?_)
            rw [if_neg (by simp)]
            exact wpAny_pure ⟨rfl, rfl, x + 1, rfl, lt, by rw [Bool.true_and]; exact e3⟩
    · rintro q s' ⟨rfl, rfl, i, er, hi, ht⟩
      have ie : i = es.size := by
        rcases Nat.lt_or_ge i es.size with z | z
        · rw [show es.size - i = (es.size - (i + 1)) + 1 by omega, List.range'_succ] at er; cases er
        · omega
      rw [ie, la, List.drop_length] at ht
      cases ht
      exact wpAny_pure h2
  · rw [if_pos (by rw [la, lb]; simpa using sz)]
    have e : (ka.length == kb.length) = false := by simpa using sz
    rw [e, Bool.false_and] at h
    exact wpAny_bind (wpAny_rule (wpAny_pure h))
theorem eq_dictsT {a b : Addr} {ka kb : List (List Key × Addr × Value)} {r : Bool} {Q : Value → Shared → Prop} (room : A.units + 1 < cLine) (ha : (a == sysModules) = false) (hb : (b == sysModules) = false)
    (da : s.heap.DictOfH (tupleKind (mixKind prog w)) a ka) (db : s.heap.DictOfH (tupleKind (mixKind prog w)) b kb) (hits : ka.length = kb.length → HitsT prog w A.in1 s kb ka r) (h : Q (.bool (ka.length == kb.length && r)) s) :
    wpAny (model prog w) A (compareOp .Eq (.ref a) (.ref b)) Q E s := by
  refine wpAny_richCompare_same_room (op := .Eq) da.typeIs db.typeIs PySem.F.slot_dict_eq (wpAny_call_entry PySem.F.slot_dict_eq da.typeIs PySem.F.entry_dict_eq ?_ (PySem.F.args_dict_eq_2 _ _)) (by omega)
  show wpAny _ _ (Builtin.Dict.dictSlotArgs "__eq__" ⟨[.ref a, .ref b], []⟩ >>= _) _ _ s
  unfold Builtin.Dict.dictSlotArgs
  refine wpAny_bind (wpAny_bind (wpAny_notOrdered_dict da.typeIs ?_))
  show wpAny _ _ (pure (Value.ref a, Value.ref b)) _ _ s
  refine wpAny_pure (wpAny_bind (wpAny_isInstance (T := "dict") db.typeIs PySem.F.sub_dict_dict ?_))
  simp only [Bool.not_true, Bool.false_eq_true, if_false]
  refine wpAny_bind (wpAny_pure (wpAny_bind (wpAny_pure (wpAny_bind (samePairsT (by exact room) ha hb da db hits ?_)))))
  exact wpAny_pure ⟨_, rfl, (fun x => nomatch x), by simpa using h⟩
end
theorem valV_mem {κ : Type} [DecidableEq κ] {kvs : List (κ × V)} {k : κ} {v : V} (h : valV kvs k = some v) : ∃ p ∈ kvs, p.1 = k ∧ p.2 = v := by
  unfold valV at h
  obtain ⟨p, hp, e⟩ := Option.map_eq_some_iff.mp h
  exact ⟨p, List.mem_of_find?_eq_some hp, by simpa using List.find?_some hp, e⟩
/-- numbers under tuple keys -/
def intsT (ks : List (List Key × V)) : Prop := ∀ p ∈ ks, ∃ i, p.2 = .int i
section
variable {X : Cx}
theorem hits_T {A : Around} {s : Shared} {H Hb : Hp} {ls : List (List Key × V)} {kb : List (List Key × Addr × Value)} (rb : KT Hb ls kb) (il : intsT ls) : ∀ {ks : List (List Key × V)} {ka : List (List Key × Addr × Value)}, KT H ks ka → intsT ks →
    HitsT X.prog X.w A s kb ka (ks.all fun p => decide (valV ls p.1 = some p.2)) := by
  intro ks ka r
  unfold KT at r
  induction r with
  | nil => intro _; exact .nil
  | @cons p q ps qs hd tl ih =>
    intro ik
    obtain ⟨pk, pv⟩ := p
    obtain ⟨qk, qa, qv⟩ := q
    obtain ⟨e1, _, e3⟩ := hd
    obtain rfl : pk = qk := e1
    have ih := ih fun z hz => ik z (List.mem_cons_of_mem _ hz)
    rw [List.all_cons]
    have vv := rb.val pk
    dsimp only at e3 ⊢
    cases e : valV ls pk with
    | none =>
      rw [e] at vv
      have no : atKey kb pk = none := by
        cases z : atKey kb pk with
        | none => rfl
        | some t => rw [z] at vv; exact vv.elim
      rw [show decide ((none : Option V) = some pv) = false from rfl, Bool.false_and]
      exact .miss no
    | some u =>
      rw [e] at vv
      obtain ⟨t, ht, hv⟩ : ∃ t, atKey kb pk = some t ∧ RelV u t.2 := by
        cases z : atKey kb pk with
        | none => rw [z] at vv; exact vv.elim
        | some t => rw [z] at vv; exact ⟨t, rfl, vv⟩
      obtain ⟨i, hi⟩ := ik (pk, pv) (List.mem_cons_self ..)
      obtain ⟨j, hj⟩ : ∃ j, u = .int j := by
        obtain ⟨z, hz, _, ez⟩ := valV_mem e
        obtain ⟨j, hj⟩ := il z hz
        exact ⟨j, by rw [← ez, hj]⟩
      cases hi
      cases hj
      have eqa := eqAt_V (A := A) (s := s) e3 hv rfl rfl
      have ee : decide ((some (V.int j)) = some (V.int i)) = eqV (V.int i) (V.int j) := by
        show _ = decide (i = j)
        by_cases z : i = j
        · rw [decide_eq_true z, decide_eq_true (by rw [z])]
        · rw [decide_eq_false z, decide_eq_false fun y => z (by cases y; rfl)]
      rw [ee]
      exact .hit ht eqa ih
end
end CP

set_option Elab.async false
set_option linter.all false
set_option maxRecDepth 100000
set_option maxHeartbeats 4000000
set_option autoImplicit false
/-! forms: loops over dicts with tuple keys, forms as objects, their mirrors -/
namespace CP
open L2 PySem PyProof.Rows
section
variable {K : PySem.W.Frag} {d : Addr} {od : Obj} {kvs : List (List Key × V)} {g : TG} {tb : TS} {D : Ends} {σ : L2.St} {H : Hp}
theorem pos_mul {a b : Int} (h : 0 < a ∧ a < 2 ^ 200) (k : 0 < b ∧ b < 2 ^ 200) : 0 < a * b ∧ a * b < 2 ^ 400 := by
  refine ⟨Int.mul_pos h.1 k.1, ?_⟩
  have h1 : a * b < 2 ^ 200 * b := Int.mul_lt_mul_of_pos_right h.2 k.1
  have h2 : (2 : Int) ^ 200 * b < 2 ^ 200 * 2 ^ 200 := Int.mul_lt_mul_of_pos_left k.2 (by decide)
  have h3 : (2 : Int) ^ 200 * 2 ^ 200 = 2 ^ 400 := by rw [← Int.pow_add]
  rw [h3] at h2
  exact Int.lt_trans h1 h2
end
/-- what a comprehension over the pairs has made by turn i -/
def accT (kvs : List (List Key × V)) (ys : List (Option V)) (i : Nat) : List (List Key × V) := ((kvs.zip ys).take i).filterMap fun p => p.2.map fun y => (p.1.1, y)
theorem accT_keys {kvs : List (List Key × V)} {ys : List (Option V)} {i : Nat} {p : List Key × V} (h : p ∈ accT kvs ys i) : ∃ j v, j < i ∧ kvs[j]? = some (p.1, v) := by
  unfold accT at h
  obtain ⟨⟨⟨k, v⟩, o⟩, hm, e⟩ := List.mem_filterMap.mp h
  obtain ⟨y, rfl, rfl⟩ := Option.map_eq_some_iff.mp e
  obtain ⟨j, hj, ej⟩ := List.mem_iff_getElem.mp hm
  have lt : j < i := by rw [List.length_take] at hj; omega
  refine ⟨j, v, lt, ?_⟩
  rw [List.getElem_take] at ej
  have hz : j < (kvs.zip ys).length := by rw [List.length_take] at hj; omega
  rw [List.getElem_zip] at ej
  rw [List.length_zip] at hz
  rw [List.getElem?_eq_getElem (by omega)]
  exact congrArg some (congrArg Prod.fst ej)
theorem accT_len {kvs : List (List Key × V)} {ys : List (Option V)} {i : Nat} : (accT kvs ys i).length ≤ i := by
  unfold accT
  refine Nat.le_trans (List.length_filterMap_le ..) ?_
  rw [List.length_take]
  omega
theorem accT_succ {kvs : List (List Key × V)} {ys : List (Option V)} {i : Nat} {k : List Key} {v : V} {o : Option V} (hk : kvs[i]? = some (k, v)) (ho : ys[i]? = some o) : accT kvs ys (i + 1) = accT kvs ys i ++ (o.map fun y => (k, y)).toList := by
  unfold accT
  have hz : (kvs.zip ys)[i]? = some ((k, v), o) := by
    obtain ⟨h1, e1⟩ := List.getElem?_eq_some_iff.mp hk
    obtain ⟨h2, e2⟩ := List.getElem?_eq_some_iff.mp ho
    rw [List.getElem?_eq_getElem (by rw [List.length_zip]; omega), List.getElem_zip, e1, e2]
  rw [List.take_add_one, hz, List.filterMap_append]
  cases o <;> rfl
section
variable {d : Addr} {od : Obj} {kvs : List (List Key × V)} {g : TG} {tt : TT} {tk tv : TE} {vs : List Nat} {σ : L2.St} {H1 : Hp} {D : Addr} {Qd : Hp → Prop}
end
/-! ### readings -/
section
variable {K : PySem.W.Frag} {σ : L2.St} {H : Hp} {Q : VK} {d : Addr} {kvs : List (List Key × V)} {t td tk tv : TE} {ts : TS} {D : Ends} {wi : TI} {g : TG} {tt : TT} {vs : List Nat} {o : HO} {R : It → Hp → Prop}
end
abbrev oModN : R2 := rI (fun _ j => j ≠ 0) fun i j => .int (i.fmod j)
theorem gcd_fmod {a b : Int} : Int.gcd b (a.fmod b) = Int.gcd a b := by
  have e : a.fmod b = a - b * a.fdiv b := Int.fmod_def a b
  refine Nat.dvd_antisymm ?_ ?_
  · refine Int.ofNat_dvd.mp ?_
    have h1 := Int.gcd_dvd_left (a := b) (b := a.fmod b)
    have h2 := Int.gcd_dvd_right (a := b) (b := a.fmod b)
    refine Int.dvd_coe_gcd ?_ h1
    have h3 : ((Int.gcd b (a.fmod b) : Nat) : Int) ∣ a.fmod b + b * a.fdiv b := Int.dvd_add h2 (Int.dvd_mul_of_dvd_left h1)
    rwa [show a.fmod b + b * a.fdiv b = a by omega] at h3
  · refine Int.ofNat_dvd.mp ?_
    have h1 := Int.gcd_dvd_left (a := a) (b := b)
    have h2 := Int.gcd_dvd_right (a := a) (b := b)
    refine Int.dvd_coe_gcd h2 ?_
    rw [e]
    exact Int.dvd_sub h1 (Int.dvd_mul_of_dvd_left h2)
theorem fmod_less {a b : Int} (h : b ≠ 0) : (a.fmod b).natAbs < b.natAbs := by
  rw [Int.fmod_eq_emod]
  have h1 := Int.emod_nonneg a h
  have h2 := Int.emod_lt a h
  split
  · omega
  · rename_i hn
    have h3 : a % b ≠ 0 := fun z => hn (.inr (Int.dvd_of_emod_eq_zero z))
    omega
/-! ### forms -/
/-- a product of letters with its whole coefficient -/
abbrev Tm := List Str × Int
abbrev Fm := List Tm × Int
def keyT (p : List Str) : List Key := p.map Sum.inr
def rowsT (rs : List Tm) : List (List Key × V) := rs.map fun r => (keyT r.1, V.int r.2)
theorem keyT_V (p : List Str) : (keyT p).map kV = strL p := by unfold keyT strL; rw [List.map_map]; rfl
theorem keyT_inj {p q : List Str} (h : keyT p = keyT q) : p = q := by
  unfold keyT at h
  exact (List.map_inj_right fun a b e => by injection e).mp h
def FormAt (C : Addr) (H : Hp) (o : Addr) (f : Fm) : Prop := ∃ dx d, H o = some (.ins C dx [("rows", .ref d), ("under", .int f.2)]) ∧ H d = some (.dT (rowsT f.1))
theorem FormAt.mono {C : Addr} {H H' : Hp} {o : Addr} {f : Fm} (h : FormAt C H o f) (s : Same H H') : FormAt C H' o f := by
  obtain ⟨dx, d, h1, h2⟩ := h
  exact ⟨dx, d, s _ _ h1, s _ _ h2⟩
/-- a form such as the program makes them -/
structure FOk (f : Fm) : Prop where
  nd : (f.1.map (·.1)).Nodup
  few : f.1.length ≤ 1000
  lets : ∀ r ∈ f.1, (∀ w ∈ r.1, letB w = true) ∧ r.1.length ≤ 1000
  num : ∀ r ∈ f.1, r.2.natAbs < 2 ^ 200
  pos : 0 < f.2 ∧ f.2 < 2 ^ 200
theorem rowsT_get {rs : List Tm} {i : Nat} {k : List Key} {v : V} (h : (rowsT rs)[i]? = some (k, v)) : ∃ r, rs[i]? = some r ∧ k = keyT r.1 ∧ v = .int r.2 := by
  unfold rowsT at h
  rw [List.getElem?_map] at h
  obtain ⟨r, hr, e⟩ := Option.map_eq_some_iff.mp h
  cases e
  exact ⟨r, hr, rfl, rfl⟩
theorem rowsT_len (rs : List Tm) : (rowsT rs).length = rs.length := List.length_map _
theorem rowsT_ints (rs : List Tm) : intsT (rowsT rs) := fun p hp => by
  obtain ⟨r, _, rfl⟩ := List.mem_map.mp hp
  exact ⟨r.2, rfl⟩
end CP

set_option Elab.async false
set_option linter.all false
set_option maxRecDepth 100000
set_option maxHeartbeats 4000000
set_option autoImplicit false
/-! what the operations of forms compute -/
namespace CP
open L2 PySem PyProof.Rows
def keptM (rs : List Tm) : List Tm := rs.filter fun r => decide (r.2 ≠ 0)
def divM (rs : List Tm) (u : Int) : Int := rs.foldl (fun g r => (Int.gcd g r.2 : Nat)) u
def madeM (rs : List Tm) (u : Int) : Fm := ((keptM rs).map fun r => (r.1, r.2 / divM (keptM rs) u), u / divM (keptM rs) u)
theorem divM_pos {rs : List Tm} {u : Int} (h : 0 < u) : 0 < divM rs u ∧ divM rs u ≤ u := by
  unfold divM
  induction rs generalizing u with
  | nil => exact ⟨h, Int.le_refl _⟩
  | cons r rs ih =>
    rw [List.foldl_cons]
    have g0 : 0 < Int.gcd u r.2 := Int.gcd_pos_of_ne_zero_left _ (by omega)
    have g1 : ((Int.gcd u r.2 : Nat) : Int) ≤ u := Int.le_of_dvd h (Int.gcd_dvd_left ..)
    obtain ⟨a, b⟩ := ih (u := ((Int.gcd u r.2 : Nat) : Int)) (by omega)
    exact ⟨a, Int.le_trans b g1⟩
/-- what a comprehension over a form's rows makes -/
theorem acc_rows (g : Tm → Option Int) (rs : List Tm) : accT (rowsT rs) (rs.map fun r => (g r).map V.int) (rowsT rs).length = rowsT (rs.filterMap fun r => (g r).map fun n => (r.1, n)) := by
  unfold accT
  rw [List.take_of_length_le (by rw [List.length_zip]; omega)]
  induction rs with
  | nil => rfl
  | cons r rs ih =>
    show List.filterMap _ (((keyT r.1, V.int r.2), (g r).map V.int) :: (rowsT rs).zip _) = _
    rw [List.filterMap_cons, List.filterMap_cons]
    cases e : g r with
    | none => exact ih
    | some n =>
      show (keyT r.1, V.int n) :: _ = rowsT ((r.1, n) :: _)
      rw [ih]
      rfl
theorem kept_eq (rs : List Tm) : (rs.filterMap fun r => (if r.2 = 0 then none else some r.2).map fun n => (r.1, n)) = keptM rs := by
  unfold keptM
  induction rs with
  | nil => rfl
  | cons r rs ih =>
    rw [List.filterMap_cons, List.filter_cons]
    by_cases e : r.2 = 0
    · rw [if_pos e, if_neg (by simpa using e)]
      exact ih
    · rw [if_neg e, if_pos (by simpa using e)]
      show (r.1, r.2) :: _ = _
      rw [ih]
theorem div_eq (g : Int) (rs : List Tm) : (rs.filterMap fun r => (some (r.2 / g)).map fun n => (r.1, n)) = rs.map fun r => (r.1, r.2 / g) := by
  induction rs with
  | nil => rfl
  | cons r rs ih => rw [List.filterMap_cons, List.map_cons, ← ih]; rfl
theorem kept_nd {rs : List Tm} (nd : (rs.map (·.1)).Nodup) : ((keptM rs).map (·.1)).Nodup := nd.sublist ((List.filter_sublist ..).map _)
theorem kept_len (rs : List Tm) : (keptM rs).length ≤ rs.length := List.length_filter_le ..
theorem divM_succ {rs : List Tm} {u : Int} {i : Nat} {r : Tm} (h : rs[i]? = some r) : divM (rs.take (i + 1)) u = (Int.gcd (divM (rs.take i) u) r.2 : Nat) := by
  unfold divM
  rw [List.take_add_one, h, List.foldl_append]
  rfl
/-- a product's coefficient, 0 if it is not there -/
def getT : List Tm → List Str → Int
  | [], _ => 0
  | r :: rs, p => if r.1 = p then r.2 else getT rs p
def putT : List Tm → List Str → Int → List Tm
  | [], p, n => [(p, n)]
  | r :: rs, p, n => if r.1 = p then (p, n) :: rs else r :: putT rs p n
theorem getT_val (rs : List Tm) (p : List Str) : (valV (rowsT rs) (keyT p)).getD (.int 0) = .int (getT rs p) := by
  induction rs with
  | nil => rfl
  | cons r rs ih =>
    unfold getT
    show (valV ((keyT r.1, V.int r.2) :: rowsT rs) (keyT p)).getD _ = _
    by_cases e : r.1 = p
    · rw [valV_pos (by rw [e]), if_pos e]; rfl
    · rw [valV_neg (fun z => e (keyT_inj z)), if_neg e]; exact ih
theorem putT_keys_mem {rs : List Tm} {p q : List Str} {n : Int} (h : q ∈ (putT rs p n).map (·.1)) : q ∈ rs.map (·.1) ∨ q = p := by
  induction rs with
  | nil => exact .inr (List.mem_singleton.mp h)
  | cons r rs ih =>
    unfold putT at h
    split at h
    · rename_i e
      rcases List.mem_cons.mp h with z | z
      · exact .inr z
      · exact .inl (List.mem_cons_of_mem _ z)
    · rcases List.mem_cons.mp h with z | z
      · exact .inl (by rw [z]; exact List.mem_cons_self ..)
      · exact (ih z).imp (fun z => List.mem_cons_of_mem _ z) id
theorem putT_nd {rs : List Tm} {p : List Str} {n : Int} (nd : (rs.map (·.1)).Nodup) : ((putT rs p n).map (·.1)).Nodup := by
  induction rs with
  | nil => simp [putT]
  | cons r rs ih =>
    rw [List.map_cons, List.nodup_cons] at nd
    unfold putT
    split
    · rename_i e
      rw [List.map_cons, List.nodup_cons, ← e]
      exact nd
    · rename_i e
      rw [List.map_cons, List.nodup_cons]
      refine ⟨fun h => ?_, ih nd.2⟩
      rcases putT_keys_mem h with z | z
      · exact nd.1 z
      · exact e z
theorem putT_len (rs : List Tm) (p : List Str) (n : Int) : (putT rs p n).length ≤ rs.length + 1 := by
  induction rs with
  | nil => exact Nat.le_refl _
  | cons r rs ih =>
    unfold putT
    split <;> simp only [List.length_cons] <;> omega
theorem putT_val {rs : List Tm} {p : List Str} {n : Int} (nd : (rs.map (·.1)).Nodup) : putK (rowsT rs) (keyT p) (.int n) = rowsT (putT rs p n) := by
  unfold putK
  by_cases h : p ∈ rs.map (·.1)
  · have ha : ((rowsT rs).any fun kv => decide (kv.1 = keyT p)) = true := by
      obtain ⟨r, hr, e⟩ := List.mem_map.mp h
      exact List.any_eq_true.mpr ⟨(keyT r.1, .int r.2), List.mem_map.mpr ⟨r, hr, rfl⟩, by rw [e]; exact decide_eq_true rfl⟩
    rw [if_pos ha]
    clear ha
    induction rs with
    | nil => cases h
    | cons r rs ih =>
      rw [List.map_cons, List.nodup_cons] at nd
      unfold putT
      by_cases e : r.1 = p
      · rw [if_pos e]
        show _ :: _ = _ :: _
        congr 1
        · show (if keyT r.1 = keyT p then (keyT r.1, V.int n) else (keyT r.1, V.int r.2)) = (keyT p, V.int n)
          rw [e, if_pos rfl]
        · show (rowsT rs).map _ = rowsT rs
          conv => rhs; rw [← List.map_id (rowsT rs)]
          refine List.map_congr_left fun q hq => ?_
          obtain ⟨u, hu, rfl⟩ := List.mem_map.mp hq
          rw [if_neg fun z => nd.1 (by rw [e, ← keyT_inj z]; exact List.mem_map.mpr ⟨u, hu, rfl⟩)]
          rfl
      · rw [if_neg e]
        show _ :: _ = _ :: _
        congr 1
        · show (if keyT r.1 = keyT p then (keyT r.1, V.int n) else (keyT r.1, V.int r.2)) = (keyT r.1, V.int r.2)
          rw [if_neg fun z => e (keyT_inj z)]
        · exact ih nd.2 ((List.mem_cons.mp h).resolve_left fun z => e z.symm)
  · have ha : ¬ ((rowsT rs).any fun kv => decide (kv.1 = keyT p)) = true := fun z => by
      obtain ⟨q, hq, e⟩ := List.any_eq_true.mp z
      obtain ⟨u, hu, rfl⟩ := List.mem_map.mp hq
      exact h (by rw [← keyT_inj (of_decide_eq_true e)]; exact List.mem_map.mpr ⟨u, hu, rfl⟩)
    rw [if_neg ha]
    clear ha nd
    induction rs with
    | nil => rfl
    | cons r rs ih =>
      unfold putT
      rw [if_neg fun z => h (by rw [← z]; exact List.mem_cons_self ..)]
      show _ :: _ = _ :: _
      congr 1
      exact ih fun z => h (List.mem_cons_of_mem _ z)
/-- one term times one term, added -/
def mulStep (a : Tm) (acc : List Tm) (b : Tm) : List Tm := putT acc (srt (a.1 ++ b.1)) (getT acc (srt (a.1 ++ b.1)) + a.2 * b.2)
def mulRow (gs : List Tm) (acc : List Tm) (a : Tm) : List Tm := gs.foldl (mulStep a) acc
def mulR (fs gs : List Tm) : List Tm := fs.foldl (mulRow gs) []
def mulM (f g : Fm) : Fm := madeM (mulR f.1 g.1) (f.2 * g.2)
theorem mulStep_nd {a b : Tm} {acc : List Tm} (nd : (acc.map (·.1)).Nodup) : ((mulStep a acc b).map (·.1)).Nodup := putT_nd nd
theorem mulStep_len {a b : Tm} {acc : List Tm} : (mulStep a acc b).length ≤ acc.length + 1 := putT_len ..
theorem mulRow_nd {gs : List Tm} {a : Tm} : ∀ {acc : List Tm}, (acc.map (·.1)).Nodup → ((mulRow gs acc a).map (·.1)).Nodup := by
  unfold mulRow
  induction gs with
  | nil => exact fun h => h
  | cons g gs ih => exact fun h => ih (mulStep_nd h)
theorem mulRow_len {gs : List Tm} {a : Tm} : ∀ {acc : List Tm}, (mulRow gs acc a).length ≤ acc.length + gs.length := by
  unfold mulRow
  induction gs with
  | nil => exact Nat.le_refl _
  | cons g gs ih =>
    intro acc
    have h1 := ih (acc := mulStep a acc g)
    have h2 := mulStep_len (a := a) (b := g) (acc := acc)
    rw [List.foldl_cons, List.length_cons]
    omega
theorem mulR_ok {gs : List Tm} : ∀ {fs acc : List Tm}, (acc.map (·.1)).Nodup → ((fs.foldl (mulRow gs) acc).map (·.1)).Nodup ∧ (fs.foldl (mulRow gs) acc).length ≤ acc.length + fs.length * gs.length := by
  intro fs
  induction fs with
  | nil => intro acc h; exact ⟨h, by simp⟩
  | cons f fs ih =>
    intro acc h
    obtain ⟨a, b⟩ := ih (mulRow_nd (gs := gs) (a := f) h)
    have := mulRow_len (gs := gs) (a := f) (acc := acc)
    refine ⟨a, ?_⟩
    rw [List.foldl_cons, List.length_cons, Nat.succ_mul]
    omega
/-! ### the letters of a form -/
def addN (l : List Str) (w : Str) : List Str := if w ∈ l then l else l ++ [w]
def trueK (l : List Str) : List (Key × V) := l.map fun w => (Sum.inr w, V.bl true)
theorem addN_mem {l : List Str} {w x : Str} : x ∈ addN l w ↔ x ∈ l ∨ x = w := by
  unfold addN
  split
  · rename_i h
    exact ⟨.inl, fun z => z.elim id fun e => e ▸ h⟩
  · rw [List.mem_append, List.mem_singleton]
theorem addN_nd {l : List Str} {w : Str} (nd : l.Nodup) : (addN l w).Nodup := by
  unfold addN
  split
  · exact nd
  · rename_i h
    exact List.nodup_append.mpr ⟨nd, by simp, fun x hx y hy e => h (by rw [List.mem_singleton.mp hy] at e; exact e ▸ hx)⟩
theorem trueK_put {l : List Str} {w : Str} : putK (trueK l) (Sum.inr w) (.bl true) = trueK (addN l w) := by
  have ea : ((trueK l).any fun kv => decide (kv.1 = (Sum.inr w : Key))) = decide (w ∈ l) := by
    unfold trueK
    rw [List.any_map]
    induction l with
    | nil => rfl
    | cons x l ih =>
      rw [List.any_cons, ih]
      show (decide ((Sum.inr x : Key) = Sum.inr w) || _) = _
      by_cases e : x = w
      · subst e; simp
      · rw [decide_eq_false fun z => e (by injection z)]
        simp [Ne.symm e]
  unfold putK addN
  rw [ea]
  by_cases h : w ∈ l
  · rw [if_pos (decide_eq_true h), if_pos h]
    unfold trueK
    rw [List.map_map]
    refine List.map_congr_left fun x _ => ?_
    show (if (Sum.inr x : Key) = Sum.inr w then ((Sum.inr x : Key), V.bl true) else (Sum.inr x, V.bl true)) = _
    split <;> rfl
  · rw [if_neg (by simpa using h), if_neg h]
    unfold trueK
    rw [List.map_append]
    rfl
theorem adds_mem {m : List Str} {x : Str} : ∀ {l : List Str}, x ∈ m.foldl addN l ↔ x ∈ l ∨ x ∈ m := by
  induction m with
  | nil => intro l; simp
  | cons w m ih =>
    intro l
    rw [List.foldl_cons, ih, addN_mem, List.mem_cons, or_assoc]
theorem adds_nd {m : List Str} : ∀ {l : List Str}, l.Nodup → (m.foldl addN l).Nodup := by
  induction m with
  | nil => exact fun h => h
  | cons w m ih => exact fun h => ih (addN_nd h)
def namesM (rs : List Tm) : List Str := rs.foldl (fun acc r => r.1.foldl addN acc) []
theorem names_ok (rs : List Tm) : (namesM rs).Nodup ∧ ∀ x, x ∈ namesM rs ↔ x ∈ rs.flatMap fun r => r.1 := by
  suffices z : ∀ (rs : List Tm) (l : List Str), l.Nodup → (rs.foldl (fun acc r => r.1.foldl addN acc) l).Nodup ∧ ∀ x, x ∈ rs.foldl (fun acc r => r.1.foldl addN acc) l ↔ x ∈ l ∨ x ∈ rs.flatMap fun r => r.1 by
    obtain ⟨a, b⟩ := z rs [] (by simp)
    exact ⟨a, fun x => (b x).trans (by simp)⟩
  intro rs
  induction rs with
  | nil => intro l h; exact ⟨h, fun x => by simp⟩
  | cons r rs ih =>
    intro l h
    obtain ⟨a, b⟩ := ih _ (adds_nd (m := r.1) h)
    refine ⟨a, fun x => ?_⟩
    rw [List.foldl_cons, b, adds_mem, List.flatMap_cons, List.mem_append, or_assoc]
theorem adds_len {m : List Str} : ∀ {l : List Str}, (m.foldl addN l).length ≤ l.length + m.length := by
  induction m with
  | nil => exact Nat.le_refl _
  | cons w m ih =>
    intro l
    have h1 := ih (l := addN l w)
    have h2 : (addN l w).length ≤ l.length + 1 := by
      unfold addN
      split
      · omega
      · rw [List.length_append]; simp
    rw [List.foldl_cons, List.length_cons]
    omega
theorem names_len {rs : List Tm} (h : ∀ r ∈ rs, r.1.length ≤ 1000) : (namesM rs).length ≤ 1000 * rs.length := by
  suffices z : ∀ (rs : List Tm) (l : List Str), (∀ r ∈ rs, r.1.length ≤ 1000) → (rs.foldl (fun acc r => r.1.foldl addN acc) l).length ≤ l.length + 1000 * rs.length by
    have := z rs [] h
    simp only [List.length_nil] at this
    unfold namesM
    omega
  intro rs
  induction rs with
  | nil => intro l _; simp
  | cons r rs ih =>
    intro l h
    have h1 := ih (r.1.foldl addN l) fun x hx => h x (List.mem_cons_of_mem _ hx)
    have h2 := adds_len (m := r.1) (l := l)
    have h3 := h r (List.mem_cons_self ..)
    rw [List.foldl_cons, List.length_cons]
    omega
theorem names_srt (rs : List Tm) : srt (namesM rs) = sset (rs.flatMap fun r => r.1) := by
  obtain ⟨a, b⟩ := names_ok rs
  exact sset_eq ((srt_perm _).nodup_iff.mpr a) (srt_pw _) fun x => mem_srt.trans (b x)
/-! ### one product alone -/
def monoM (l : List Str) : Fm := ([(srt l, 1)], 1)
theorem made_mono (p : List Str) : madeM [(p, 1)] 1 = ([(p, 1)], 1) := by
  have e : [((p, 1) : Tm)].filter (fun r => decide (r.2 ≠ 0)) = [(p, 1)] := by simp
  unfold madeM keptM divM
  rw [e]
  show ([(p, 1 / ((Int.gcd 1 1 : Nat) : Int))], 1 / ((Int.gcd 1 1 : Nat) : Int)) = _
  rw [show Int.gcd 1 1 = 1 by decide]
  rfl
end CP

set_option Elab.async false
set_option linter.all false
set_option maxRecDepth 100000
set_option maxHeartbeats 4000000
set_option autoImplicit false
/-! sorted(t), tuple(l) of texts -/
namespace CP
open L2 PySem PyProof.Rows
section
variable {prog : Program} {w : World} {A : Around} {E : Value → Shared → Prop} {s : Shared}
theorem collect_tup {t : Addr} {its : List Value} {Q : List Value → Shared → Prop} (ht : IsTup s.heap t its.toArray) (few : its.length ≤ sizeLine)
    (h : Q its { s with heap := (s.heap.push (seqObj "list" #[] 0)).update s.heap.objs.size (Obj.mapSeq (· ++ its.toArray)) }) : wpAny (model prog w) A (collect (.ref t)) Q E s := by
  obtain ⟨u, hu, cls, n, dat⟩ := ht
  unfold collect
  refine wpAny_bind (wpAny_runValue (codeAny_builtin entry_proto_collect' ?_))
  show wpAny _ _ (do again (.builtin "list.__iadd__" ⟨[← newList [], .ref t], []⟩)) _ _ s
  refine wpAny_bind (wpAny_newList (wpAny_pure ⟨Code.quiet_builtin _ (by decide +kernel), codeAny_builtin entry_list_iadd' ?_⟩))
  show wpAny _ _ (Builtin.List.listExtendWith (.ref s.heap.objs.size) (.ref t) (.ref s.heap.objs.size)) _ _ { s with heap := s.heap.push (seqObj "list" #[] 0) }
  unfold Builtin.List.listExtendWith
  have hu2 : (s.heap.push (seqObj "list" #[] 0)).get? t = some u := Heap.get?_push_of_some _ hu
  refine wpAny_bind (wpAny_typeOf (T := "tuple") ⟨u, hu2, cls⟩ ?_)
  rw [if_pos (by rw [show (Value.type "tuple" == Value.type "tuple") = true from rfl, Bool.or_true])]
  refine wpAny_bind (listItems_at hu2 dat (wpAny_bind (listItems_at (xs := #[]) (n := 0) (Heap.get?_push_size _ rfl) rfl ?_)))
  rw [if_neg (by simp)]
  have fits : (#[] ++ its.toArray : Array Value).size ≤ sizeLine + 1 := by
    simp only [Array.size_append, List.size_toArray, List.length_nil]
    omega
  refine wpAny_bind (listUpdate_at (xs := #[]) (n := 0) (Heap.get?_push_size _ rfl) rfl ?_ (Nat.zero_le _) fits)
  refine wpAny_pure ?_
  show wpAny (model prog w) A (do
      let o ← load s.heap.objs.size
      match o.data with
      | .seq xs _ => pure xs.toList
      | _ => unsupported "internal:collect") Q E { s with heap := (s.heap.push (seqObj "list" #[] 0)).update s.heap.objs.size (Obj.mapSeq (· ++ its.toArray)) }
  refine wpAny_bind (wpAny_load (get?_update_seq (Heap.get?_push_size _ rfl) _) ?_)
  show wpAny _ _ (pure ((#[] : Array Value) ++ its.toArray).toList) Q E _
  rw [show ((#[] : Array Value) ++ its.toArray).toList = its by simp]
  exact wpAny_pure h
theorem sorted_tup {t : Addr} {its : List Value} {ss : List Str} {Q : Value → Shared → Prop} (ht : IsTup s.heap t its.toArray) (hS : StrsAre its ss) (few : its.length ≤ sizeLine)
    (h : ∀ (out : Array Value) (qs : List Str), StrsAre out.toList qs → qs.Perm ss → sortedS qs = true → Q (.ref (s.heap.objs.size + 1)) { s with heap := sortedAll s.heap its out }) : wpAny (model prog w) A (call (.builtin "sorted") [.ref t]) Q E s := by
  refine Calls.call_function_entry kind_sorted plain_sorted entry_sorted (args_sorted1 _) ?_
  unfold Builtin.«sorted»
  refine wpAny_bind (m := checkCount "sorted" 1 1 _) (wpAny_pure (wpAny_bind (collect_tup ht few (wpAny_bind (wpAny_newList ?_ few)))))
  have sz : ((s.heap.push (seqObj "list" #[] 0)).update s.heap.objs.size (Obj.mapSeq (· ++ its.toArray))).objs.size = s.heap.objs.size + 1 := (Heap.size_update ..).trans (size_push' ..)
  have at_ : (((s.heap.push (seqObj "list" #[] 0)).update s.heap.objs.size (Obj.mapSeq (· ++ its.toArray))).push (seqObj "list" its.toArray 0)).get? (s.heap.objs.size + 1) = some (seqObj "list" its.toArray 0) := by
    rw [← sz]
    exact Heap.get?_push_size _ rfl
  show wpAny _ _ _ _ _ { s with heap := ((s.heap.push (seqObj "list" #[] 0)).update s.heap.objs.size (Obj.mapSeq (· ++ its.toArray))).push (seqObj "list" its.toArray 0) }
  rw [sz]
  refine wpAny_bind (wpAny_holding (wpAny_call_entry slot_list_sort ⟨_, at_, rfl⟩ entry_list_sort (list_sort_treeKAny strKind_oneLt at_ hS.keysOf (fun u v r e => keyKind_strs (by rw [← e]; exact hS)) few fun st h1 h2 => ⟨_, rfl, ?_⟩) (args_list_sort _)))
  obtain ⟨qs, g1, g2, g3⟩ := sorted_out_str hS h1 h2
  exact wpAny_pure ⟨_, rfl, h _ qs g1 g2 g3⟩
end
def rSortedTS (K : PySem.W.Frag) : List V → Hp → VK → Prop := fun vs H Q => ∃ a xs, vs = [V.ref a] ∧ SqT K H a (strL xs) ∧ xs.length ≤ 100000 ∧ ∀ p H', H p = none → Same H H' → H' p = some (.lst (strL (srt xs))) → Q (.ref p) H'
section
variable {X : Cx}
theorem cr_sortedTS : CallR X (.builtin "sorted") (rSortedTS X.K) := by
  intro pins s σ H vs us Q I r h
  obtain ⟨a, xs, rfl, hs, few, q⟩ := h
  have sl : sizeLine = 16777216 := rfl
  obtain ⟨its, rv, ht, len⟩ := I.tuple hs
  rw [Vals.ref1 r]
  have rl : xs.length = its.length := by
    have := rv.length
    rwa [strL_len] at this
  refine sorted_tup ht (show StrsAre its xs from rv.strs) (by omega) fun out qs h1 h2 h3 => ?_
  obtain ⟨ep, he⟩ := sortedAll_at s.heap its out
  have eq : qs = srt xs := srt_of h2 h3
  have lq : (qs.map V.str).length ≤ sizeLine := by rw [List.length_map, h2.length_eq]; omega
  refine ⟨.ref _, upd H (s.heap.objs.size + 1) (.lst (qs.map V.str)), I.laid (t' := s.toks) (fun _ _ => sortedAll_old) (Nat.le_succ _) ⟨lq, out.toList, ep, vals_of_strs h1, he⟩, rfl, ?_⟩
  have n0 := I.hok.fresh (a := s.heap.objs.size + 1) (Nat.le_succ _)
  exact q _ _ n0 (same_new n0) (by rw [upd_same, eq]; rfl)
end
end CP

set_option Elab.async false
set_option linter.all false
set_option maxRecDepth 100000
set_option maxHeartbeats 4000000
set_option autoImplicit false
/-! {k: v for a in x for b in y}: dict comprehensions of two clauses -/
namespace CP
open L2 PySem PyProof.Rows PySem.Spec
theorem turn2_out (kx vx t0 i0 t1 i1 : Expr) (c0 c1 : List Expr) (scope : Scope) (pos : Pos) (it : Value) (D : Addr) (env : Env) :
    compTurn (.DictComp kx vx [⟨t0, i0, c0, 0⟩, ⟨t1, i1, c1, 0⟩] scope pos) 0 it (.ref D) env = (do
      standAt i0.pos
      match ← pyNext it with
      | none => pure (.done .next)
      | some v => do
        letOwnedTupleGo t0 it v; assign t0 env v
        let mut yes := true
        for c in c0 do { if yes then yes ← isTrue c env (eval c env) }
        if yes then
          let x ← eval i1 env
          standAt i1.pos; let x ← foldedSetIterable i1 env x
          let _ ← runOwn (.compStart (.DictComp kx vx [⟨t0, i0, c0, 0⟩, ⟨t1, i1, c1, 0⟩] scope pos) 1 (← holding [x] (pyIter x)) (.ref D) env) env
        again (.compLoop (.DictComp kx vx [⟨t0, i0, c0, 0⟩, ⟨t1, i1, c1, 0⟩] scope pos) 0 it (.ref D) env)) := by rfl
theorem turn2_in (kx vx t0 i0 t1 i1 : Expr) (c0 c1 : List Expr) (scope : Scope) (pos : Pos) (it : Value) (D : Addr) (env : Env) :
    compTurn (.DictComp kx vx [⟨t0, i0, c0, 0⟩, ⟨t1, i1, c1, 0⟩] scope pos) 1 it (.ref D) env = (do
      standAt i1.pos
      match ← pyNext it with
      | none => pure (.done .next)
      | some v => do
        letOwnedTupleGo t1 it v; assign t1 env v
        let mut yes := true
        for c in c1 do { if yes then yes ← isTrue c env (eval c env) }
        if yes then
          (do
            let ku ← eval kx env
            let vu ← holding [ku] (eval vx env)
            standAt { kx.pos with endLine := (Expr.pos vx).endLine, endCol := (Expr.pos vx).endCol }
            holding [ku, vu] (dictSet D ku vu))
        again (.compLoop (.DictComp kx vx [⟨t0, i0, c0, 0⟩, ⟨t1, i1, c1, 0⟩] scope pos) 1 it (.ref D) env)) := by rfl
section
variable {prog : Program} {w : World} {A : Around} {R : Result → Shared → Prop} {s : Shared} {kx vx t0 i0 t1 i1 : Expr} {c0 c1 : List Expr} {scope : Scope} {pos : Pos} {it : Value} {D : Addr} {env : Env}
/-- the tests of a clause -/
abbrev allOf (cs : List Expr) (env : Env) : Sem Bool := forIn cs true fun c r => if r = true then do let ok ← isTrue c env (eval c env); pure (ForInStep.yield ok) else pure (ForInStep.yield r)
/-- what is noted when something is raised in the block -/
abbrev noted (prog : Program) (w : World) (A : Around) (env : Env) (R : Result → Shared → Prop) : Value → Shared → Prop := notedBy (model prog w) A env fun e s' => R (.error e) s'
theorem loop2_out (fold : ∀ x, foldedSetIterable i1 env x = pure x) (W : Nat → Shared → Prop)
    (turn : ∀ n s, W n s → wpAny (model prog w) A (pyNext it) (fun r sa => match r with
      | none => R (.ok .next) sa
      | some v => wpAny (model prog w) A (letOwnedTupleGo t0 it v) (fun _ sb => wpAny (model prog w) A (assign t0 env v) (fun _ sc => wpAny (model prog w) A (allOf c0 env) (fun ok sd =>
            if ok = true then wpAny (model prog w) A (eval i1 env) (fun x se => wpAny (model prog w) A (pyIter x) (fun it1 sf =>
              codeAny (model prog w) A (.compStart (.DictComp kx vx [⟨t0, i0, c0, 0⟩, ⟨t1, i1, c1, 0⟩] scope pos) 1 it1 (.ref D) env) (fun r s' => match r with
                | .ok _ => ∃ m, m < n ∧ W m s'
                | .error _ => False) sf) (noted prog w A env R) se) (noted prog w A env R) sd
            else ∃ m, m < n ∧ W m sd) (noted prog w A env R) sc) (noted prog w A env R) sb) (noted prog w A env R) sa) (noted prog w A env R) s)
    (n : Nat) (h : W n s) : codeAny (model prog w) A (.compLoop (.DictComp kx vx [⟨t0, i0, c0, 0⟩, ⟨t1, i1, c1, 0⟩] scope pos) 0 it (.ref D) env) R s := by
  refine codeAny_loop rfl W (fun n s hW => ?_) n h
  show wpAny _ A ((compTurn (.DictComp kx vx [⟨t0, i0, c0, 0⟩, ⟨t1, i1, c1, 0⟩] scope pos) 0 it (.ref D) env).onRaise (fun x => do noteFrame x env; theTreesLotGoes x)) _ _ s
  refine wpAny_noted ?_
  rw [turn2_out]
  refine wpAny_bind (wpAny_standAt (wpAny_bind (wpAny_mono (turn n s hW) (fun r sa ha => ?_) fun _ _ z => z)))
  match r, ha with
  | none, ha => exact wpAny_pure ha
  | some v, ha =>
    refine wpAny_bind (wpAny_mono ha (fun _ sb hb => wpAny_bind (wpAny_mono hb (fun _ sc hc => wpAny_bind (wpAny_mono hc (fun ok sd hd => ?_) fun _ _ z => z)) fun _ _ z => z)) fun _ _ z => z)
    match ok, hd with
    | false, hd => exact wpAny_pure ⟨rfl, hd⟩
    | true, hd =>
      refine wpAny_bind (wpAny_mono hd (fun x se he => wpAny_bind (wpAny_standAt (wpAny_bind (wpAny_of_eq (fold x) (wpAny_bind (wpAny_holding (wpAny_mono he (fun it1 sf hf => ?_) fun _ _ z => z))))))) fun _ _ z => z)
      refine wpAny_bind (wpAny_runOwn ?_)
      rw [Around.mark_none]
      refine codeAny_mono hf fun r s' hr => ?_
      match r, hr with
      | .ok f, hr => first | exact wpAny_pure ⟨rfl, hr⟩ | exact wpAny_bind (wpAny_pure (wpAny_pure ⟨rfl, hr⟩))
      | .error e, hr => exact hr.elim
theorem loop2_in (W : Nat → Shared → Prop)
    (turn : ∀ n s, W n s → wpAny (model prog w) A (pyNext it) (fun r sa => match r with
      | none => R (.ok .next) sa
      | some v => wpAny (model prog w) A (letOwnedTupleGo t1 it v) (fun _ sb => wpAny (model prog w) A (assign t1 env v) (fun _ sc => wpAny (model prog w) A (allOf c1 env) (fun ok sd =>
            if ok = true then wpAny (model prog w) A (eval kx env) (fun ku se => wpAny (model prog w) A (eval vx env) (fun vu sf =>
              wpAny (model prog w) A (dictSet D ku vu) (fun _ sg => ∃ m, m < n ∧ W m sg) (noted prog w A env R) sf) (noted prog w A env R) se) (noted prog w A env R) sd
            else ∃ m, m < n ∧ W m sd) (noted prog w A env R) sc) (noted prog w A env R) sb) (noted prog w A env R) sa) (noted prog w A env R) s)
    (n : Nat) (h : W n s) : codeAny (model prog w) A (.compLoop (.DictComp kx vx [⟨t0, i0, c0, 0⟩, ⟨t1, i1, c1, 0⟩] scope pos) 1 it (.ref D) env) R s := by
  refine codeAny_loop rfl W (fun n s hW => ?_) n h
  show wpAny _ A ((compTurn (.DictComp kx vx [⟨t0, i0, c0, 0⟩, ⟨t1, i1, c1, 0⟩] scope pos) 1 it (.ref D) env).onRaise (fun x => do noteFrame x env; theTreesLotGoes x)) _ _ s
  refine wpAny_noted ?_
  rw [turn2_in]
  refine wpAny_bind (wpAny_standAt (wpAny_bind (wpAny_mono (turn n s hW) (fun r sa ha => ?_) fun _ _ z => z)))
  match r, ha with
  | none, ha => exact wpAny_pure ha
  | some v, ha =>
    refine wpAny_bind (wpAny_mono ha (fun _ sb hb => wpAny_bind (wpAny_mono hb (fun _ sc hc => wpAny_bind (wpAny_mono hc (fun ok sd hd => ?_) fun _ _ z => z)) fun _ _ z => z)) fun _ _ z => z)
    match ok, hd with
    | false, hd => exact wpAny_pure ⟨rfl, hd⟩
    | true, hd =>
      refine wpAny_bind (wpAny_bind (wpAny_mono hd (fun ku se he => wpAny_bind (wpAny_holding (wpAny_mono he (fun vu sf hf => ?_) fun _ _ z => z))) fun _ _ z => z))
      exact wpAny_bind (wpAny_standAt (wpAny_holding (wpAny_mono hf (fun _ sg hg => wpAny_pure ⟨rfl, hg⟩) fun _ _ z => z)))
theorem start2_ok (h0 : codeAny (model prog w) A (.compLoop (.DictComp kx vx [⟨t0, i0, c0, 0⟩, ⟨t1, i1, c1, 0⟩] scope pos) 1 it (.ref D) env) R s)
    (h : wpAny (model prog w) A (pyIter it) (fun it' s' => codeAny (model prog w) A (.compLoop (.DictComp kx vx [⟨t0, i0, c0, 0⟩, ⟨t1, i1, c1, 0⟩] scope pos) 1 it' (.ref D) env) R s') (noted prog w A env R) s) :
    codeAny (model prog w) A (.compStart (.DictComp kx vx [⟨t0, i0, c0, 0⟩, ⟨t1, i1, c1, 0⟩] scope pos) 1 it (.ref D) env) R s := by
  refine codeAny_of_tree ?_
  show wpAny _ _ ((compStart (.DictComp kx vx [⟨t0, i0, c0, 0⟩, ⟨t1, i1, c1, 0⟩] scope pos) 1 it (.ref D) env).onRaise (fun x => do noteFrame x env; standAt theWindowsPlace)) _ _ s
  refine wpAny_notedAt ?_
  unfold compStart
  show wpAny _ _ (ask >>= _) _ _ s
  refine wpAny_bind (wpAny_askSetting (wpAny_ite ?_))
  split
  · first
      | exact wpAny_bind (wpAny_pure (wpAny_pure ⟨rfl, h0⟩))
      | exact wpAny_pure ⟨rfl, h0⟩
  · first
      | exact wpAny_bind (wpAny_rule (wpAny_bind (wpAny_standAt (wpAny_bind (wpAny_mono h (fun _ _ z => wpAny_pure ⟨rfl, z⟩) fun _ _ x => x)))))
      | (refine wpAny_bind (wpAny_rule ?_); show wpAny _ _ (standAt i1.pos >>= _) _ _ s; exact wpAny_bind (wpAny_standAt (wpAny_bind (wpAny_mono h (fun _ _ z => wpAny_pure ⟨rfl, z⟩) fun _ _ x => x))))
end
/-- the reading: behind the first clause's store the second source's own loop -/
def tDg2 (o : HO) (wi : TI) (g : TG) (tt : TT) (wi1 : TI) (g1 : TG) (tt1 : TT) (tk tv : TE) (vs vs1 : List Nat) : TE := fun σ H Q => wi σ H fun J H1 => ∀ D, H1 D = none → ∃ W : Nat → Nat → Hp → Prop, (∃ m, W 0 m (upd H1 D o)) ∧ ∀ i m H, W i m H →
  (J.stop i H ∧ Q (.ref D) H) ∨ (J.go i H ∧ ∃ N : Hp → Prop, (∀ H', N H' → ∃ m', m' < m ∧ W (i + 1) m' H') ∧ ∀ x H', J.yld i H x H' → g x (wipe σ vs) H' fun σ2 H2 => wipe σ2 vs = wipe σ vs ∧ tt σ2 H2 fun b H3 =>
    if b = true then wi1 σ2 H3 fun J1 H4 => ∃ W1 : Nat → Nat → Hp → Prop, (∃ m, W1 0 m H4) ∧ ∀ j k H, W1 j k H →
      (J1.stop j H ∧ N H) ∨ (J1.go j H ∧ ∃ N1 : Hp → Prop, (∀ H', N1 H' → ∃ k', k' < k ∧ W1 (j + 1) k' H') ∧ ∀ x H', J1.yld j H x H' → g1 x (wipe σ2 vs1) H' fun σ3 H5 => wipe σ3 vs1 = wipe σ2 vs1 ∧ tt1 σ3 H5 fun b H6 =>
        if b = true then tk σ3 H6 fun y H7 => tv σ3 H7 fun z H8 => ∃ H9, DPut H8 D y z H9 ∧ N1 H9 else N1 H6)
    else N H3)
theorem r_dg2 {o : HO} {wi : TI} {g : TG} {tt : TT} {wi1 : TI} {g1 : TG} {tt1 : TT} {tk tv : TE} {vs vs1 : List Nat} {σ : L2.St} {H : Hp} {Q : VK} (q : wi σ H fun J H1 => ∀ D, H1 D = none → ∃ W : Nat → Nat → Hp → Prop, (∃ m, W 0 m (upd H1 D o)) ∧ ∀ i m H, W i m H →
  (J.stop i H ∧ Q (.ref D) H) ∨ (J.go i H ∧ ∃ N : Hp → Prop, (∀ H', N H' → ∃ m', m' < m ∧ W (i + 1) m' H') ∧ ∀ x H', J.yld i H x H' → g x (wipe σ vs) H' fun σ2 H2 => wipe σ2 vs = wipe σ vs ∧ tt σ2 H2 fun b H3 =>
    if b = true then wi1 σ2 H3 fun J1 H4 => ∃ W1 : Nat → Nat → Hp → Prop, (∃ m, W1 0 m H4) ∧ ∀ j k H, W1 j k H →
      (J1.stop j H ∧ N H) ∨ (J1.go j H ∧ ∃ N1 : Hp → Prop, (∀ H', N1 H' → ∃ k', k' < k ∧ W1 (j + 1) k' H') ∧ ∀ x H', J1.yld j H x H' → g1 x (wipe σ2 vs1) H' fun σ3 H5 => wipe σ3 vs1 = wipe σ2 vs1 ∧ tt1 σ3 H5 fun b H6 =>
        if b = true then tk σ3 H6 fun y H7 => tv σ3 H7 fun z H8 => ∃ H9, DPut H8 D y z H9 ∧ N1 H9 else N1 H6)
    else N H3)) : tDg2 o wi g tt wi1 g1 tt1 tk tv vs vs1 σ H Q := q
section
variable {X : Cx}
theorem pe_dg2 {o : HO} {kx vx tg iter tg1 iter1 : Expr} {cs cs1 : List Expr} {scope : Scope} {own : List (Str × Nat)} {vs1 : List Nat} {pos : Pos} {wi wi1 : TI} {g g1 : TG} {tt tt1 : TT} {tk tv : TE} (eo : Emp o) (room : X.A.units < cLine) (calm : X.calm = true) (nd : X.N.Nodup)
    (it : PI X tg iter wi) (blk : BlkOk X.N X.env.scope scope own) (sub : ∀ i ∈ vs1, i ∈ own.map (·.2))
    (dg : ∀ (s : Shared) (H : Hp) (C : Addr) (cl : List (Str × Addr)) (fp : List Addr), PG (X.blk s H scope (compEnvC scope cl C X.env) fp) tg g) (dt : ∀ (s : Shared) (H : Hp) (C : Addr) (cl : List (Str × Addr)) (fp : List Addr), PTs (X.blk s H scope (compEnvC scope cl C X.env) fp) cs tt)
    (di1 : ∀ (s : Shared) (H : Hp) (C : Addr) (cl : List (Str × Addr)) (fp : List Addr), PI (X.blk s H scope (compEnvC scope cl C X.env) fp) tg1 iter1 wi1)
    (dg1 : ∀ (s : Shared) (H : Hp) (C : Addr) (cl : List (Str × Addr)) (fp : List Addr), PG (X.blk s H scope (compEnvC scope cl C X.env) fp) tg1 g1) (dt1 : ∀ (s : Shared) (H : Hp) (C : Addr) (cl : List (Str × Addr)) (fp : List Addr), PTs (X.blk s H scope (compEnvC scope cl C X.env) fp) cs1 tt1)
    (dk : ∀ (s : Shared) (H : Hp) (C : Addr) (cl : List (Str × Addr)) (fp : List Addr), PE (X.blk s H scope (compEnvC scope cl C X.env) fp) kx tk)
    (dv : ∀ (s : Shared) (H : Hp) (C : Addr) (cl : List (Str × Addr)) (fp : List Addr), PE (X.blk s H scope (compEnvC scope cl C X.env) fp) vx tv)
    (fold : ∀ x, foldedSetIterable iter X.env x = pure x := by intro _; rfl) (fold1 : ∀ env x, foldedSetIterable iter1 env x = pure x := by intro _ _; rfl) :
    PE X (.DictComp kx vx [⟨tg, iter, cs, 0⟩, ⟨tg1, iter1, cs1, 0⟩] scope pos) (tDg2 o wi g tt wi1 g1 tt1 tk tv (own.map (·.2)) vs1) := by
  constructor
  intro pins s σ H Q I h
  rw [arm_eval_DictComp]
  have free : ∀ y ∈ scope.names, y.2 = .free → ∃ c, X.env.cells.lookup y.1 = some c := fun y hy e => (blk.free y hy e).elim (fun z => I.ok.has _ (.inl z)) fun z => I.ok.has _ (.inr z)
  refine wpAny_comprehension_free (use := none) rfl fold (closure_ok free) blk.kind (fun y hy e => (blk.uniq y hy).trans (by rw [e])) (thn (it.run pins s σ H _ I h) fun xv s1 z1 => thn z1 fun iv s2 z2 => ?_)
  obtain ⟨ia, fp, tn, J, H2, rfl, I2, T, st2, f2, q⟩ := z2
  refine wpAny_newObj_type (newEnv_comp ?_)
  generalize eD : s2.heap.objs.size = D
  have D0 : H2 D = none := I2.hok.fresh (Nat.le_of_eq eD)
  obtain ⟨W, ⟨m0, w0⟩, turn⟩ := q D D0
  generalize e3 : ({ s2 with heap := s2.heap.push { cls := .type "dict", data := .dict #[] } } : Shared) = s3
  have I3 : Inv X pins σ (upd H2 D o) s3 := by
    subst e3
    refine I2.laid (t' := s2.toks) (fun b u z => Heap.get?_push_of_some _ z) (Nat.le_of_eq eD) ?_
    cases eD
    exact eo.ok s2.heap I2.big
  have p3 : s3.heap = s2.heap.push { cls := .type "dict", data := .dict #[] } := by rw [← e3]
  have low : ∀ b ∈ fp, b < s2.heap.objs.size := fun b hb => let ⟨u, z, _⟩ := T.obj _ _ st2 b hb; Heap.lt_size z
  have f3 : ∀ b ∈ fp, FpOk X pins (upd H2 D o) b ∧ b < s3.heap.objs.size := fun b hb => by
    have lt := low b hb
    refine ⟨⟨(upd_ne (by rw [← eD]; exact Nat.ne_of_lt lt)).trans (f2 b hb).1, (f2 b hb).2⟩, ?_⟩
    rw [p3, Heap.size_push]
    exact Nat.lt_succ_of_lt lt
  have st3 : tn 0 s3.heap := T.keep _ _ _ st2 fun b _ u z => by rw [p3]; exact Heap.get?_push_of_some _ z
  have I4 := block_start I3 blk nd f3
  have pg := dg s3 (upd H2 D o) s3.heap.objs.size (cellsFrom (s3.heap.objs.size + 1) scope.names (cloFrom X.env.cells scope.names [])) fp
  have pt := dt s3 (upd H2 D o) s3.heap.objs.size (cellsFrom (s3.heap.objs.size + 1) scope.names (cloFrom X.env.cells scope.names [])) fp
  have pi1 := di1 s3 (upd H2 D o) s3.heap.objs.size (cellsFrom (s3.heap.objs.size + 1) scope.names (cloFrom X.env.cells scope.names [])) fp
  have pg1 := dg1 s3 (upd H2 D o) s3.heap.objs.size (cellsFrom (s3.heap.objs.size + 1) scope.names (cloFrom X.env.cells scope.names [])) fp
  have pt1 := dt1 s3 (upd H2 D o) s3.heap.objs.size (cellsFrom (s3.heap.objs.size + 1) scope.names (cloFrom X.env.cells scope.names [])) fp
  have pk := dk s3 (upd H2 D o) s3.heap.objs.size (cellsFrom (s3.heap.objs.size + 1) scope.names (cloFrom X.env.cells scope.names [])) fp
  have pv := dv s3 (upd H2 D o) s3.heap.objs.size (cellsFrom (s3.heap.objs.size + 1) scope.names (cloFrom X.env.cells scope.names [])) fp
  show codeAny _ _ (.compStart (.DictComp kx vx [⟨tg, iter, cs, 0⟩, ⟨tg1, iter1, cs1, 0⟩] scope pos) 0 (.ref ia) (.ref D) (compEnvC scope (cellsFrom (s3.heap.objs.size + 1) scope.names (cloFrom X.env.cells scope.names [])) s3.heap.objs.size X.env)) (compPost (model X.prog X.w) X.A X.xe none (EP X pins σ Q) (.ref D) s3.heap.objs.size) { s3 with heap := pushCells (s3.heap.push { cls := .type "dict", data := .dict #[] }) scope.names }
  have no : ∀ b ∈ fp, (upd H2 D o) b = none := fun b hb => (f3 b hb).1.1
  generalize ece : compEnvC scope (cellsFrom (s3.heap.objs.size + 1) scope.names (cloFrom X.env.cells scope.names [])) s3.heap.objs.size X.env = ce at I4 pg pt pi1 pg1 pt1 pk pv ⊢
  have cl : ce.locals = s3.heap.objs.size := by cases ece; rfl
  generalize eH3 : upd H2 D o = H3 at I3 I4 pg pt pi1 pg1 pt1 pk pv w0 no f3
  generalize e4 : ({ s3 with heap := pushCells (s3.heap.push { cls := .type "dict", data := .dict #[] }) scope.names } : Shared) = s4 at I4 ⊢
  have st4 : tn 0 s4.heap := T.keep _ _ _ st3 fun b _ u z => by rw [← e4]; exact pushCells_keeps _ _ _ _ (Heap.get?_push_of_some _ z)
  have still : ∀ {σ' : L2.St} {H' : Hp} {s' : Shared}, Inv (X.blk s3 H3 scope ce fp) [] σ' H' s' → (∀ b ∈ fp, H' b = none) → ∀ b ∈ fp, FpOk (X.blk s3 H3 scope ce fp) [] H' b := fun {σ' H' s'} K n b hb =>
    ⟨n b hb, (K.ok.exf b hb).1, K.ok.exfs b hb, .inl hb, fun x c z => (K.ok.exf b hb).2 x c z, fun p hp => nomatch (show p ∈ ([] : List (Addr × Obj)) from hp)⟩
  have loop : codeAny (model X.prog X.w) X.A (.compLoop (.DictComp kx vx [⟨tg, iter, cs, 0⟩, ⟨tg1, iter1, cs1, 0⟩] scope pos) 0 (.ref ia) (.ref D) ce) (compPost (model X.prog X.w) X.A X.xe none (EP X pins σ Q) (.ref D) s3.heap.objs.size) s4 := by
    refine loop2_out (fold1 ce) (fun n s' => ∃ i H', Inv (X.blk s3 H3 scope ce fp) [] (wipe σ (own.map (·.2))) H' s' ∧ tn i s'.heap ∧ (∀ b ∈ fp, H' b = none) ∧ W i n H') (fun n s5 ⟨i, H5, I5, st5, n5, w5⟩ => ?_) m0 ⟨0, H3, I4, st4, no, w0⟩
    rcases turn i n H5 w5 with ⟨stop, fin⟩ | ⟨go, N, nx, step⟩
    · refine thnF (T.done (X.blk s3 H3 scope ce fp) rfl rfl rfl calm i [] s5 _ H5 (fun _ _ => False) I5 (still I5 n5) st5 stop) fun v s6 z => ?_
      obtain ⟨rfl, I6⟩ := z
      have I7 : Inv X pins σ H5 s6 := I3.call' (ch := fp) I6.os I6.base I6.hok I6.bare fun b hb => let k := (f3 b hb).1; ⟨k.2.2.2.1, k.2.1, k.2.2.2.2.1, k.2.2.2.2.2⟩
      have cz : H5 s3.heap.objs.size = none := by rw [← cl]; exact I6.free
      obtain ⟨m, ns, _⟩ := I6.loc
      have ns : s6.heap.Ns s3.heap.objs.size m := by rw [← cl]; exact ns
      obtain ⟨p0, p1, p2, p3, p4, p5⟩ := I3.fpOk (Nat.le_refl _) cz
      exact ⟨m, ns, fun h2 sb => ⟨.ref D, H5, I7.turned (t' := s6.toks) (fun b u ne e => (sb.2 b ne).trans e) p0 p1 p3 p4 p5, rfl, fin⟩⟩
    · refine thnF (T.item (X.blk s3 H3 scope ce fp) rfl rfl rfl calm i [] s5 _ H5 (fun _ _ => False) I5 (still I5 n5) st5 go) fun v s6 z => ?_
      obtain ⟨u, rfl, z⟩ := z
      refine thnF z fun _ s7 z => ?_
      obtain ⟨x, H7, I7, r7, y7, st7, n7⟩ := z
      have J7 := I7.pinned (still I7 n7) (T.obj _ _ st7)
      refine thnF (pg.run _ s7 _ H7 x u _ J7 r7 (step x H7 y7)) fun _ s8 z => ?_
      obtain ⟨σ8, H8, I8, ew, q8⟩ := z
      refine thnF (pt.run _ s8 σ8 H8 _ I8 q8) fun b s9 z => ?_
      obtain ⟨H9, I9, q9⟩ := z
      have end_ : ∀ {σ9 : L2.St} {s' : Shared} {H' : Hp}, Inv (X.blk s3 H3 scope ce fp) ([] ++ pinsAt fp s7.heap) σ9 H' s' → (wipe σ (own.map (·.2))).length = σ9.length → (∀ (j : Nat) v, (wipe σ (own.map (·.2)))[j]? = some (some v) → σ9[j]? = some (some v)) → N H' →
          ∃ m, m < n ∧ ∃ i H', Inv (X.blk s3 H3 scope ce fp) [] (wipe σ (own.map (·.2))) H' s' ∧ tn i s'.heap ∧ (∀ b ∈ fp, H' b = none) ∧ W i m H' := fun {σ9 s' H'} K len knows hN => by
        obtain ⟨m, lt, w⟩ := nx H' hN
        have pin : ∀ b ∈ fp, ∀ u, s7.heap.get? b = some u → s'.heap.get? b = some u ∧ H' b = none := fun b hb u z => by
          obtain ⟨z1, z2, _⟩ := K.pin (b, u) (List.mem_append_right _ (List.mem_append_right _ (mem_pinsAt hb z)))
          exact ⟨z1, z2⟩
        refine ⟨m, lt, i + 1, H', (K.unpinned (pins := [])).weak len knows, T.keep _ _ _ st7 fun b hb u z => (pin b hb u z).1, fun b hb => ?_, w⟩
        obtain ⟨u, z, _⟩ := T.obj _ _ st7 b hb
        exact (pin b hb u z).2
      have len8 : (wipe σ (own.map (·.2))).length = σ8.length := (congrArg List.length ew.symm).trans (wipe_length ..)
      match b, q9 with
      | false, q9 => exact end_ I9 len8 (fun j v z => (wipe_some (ew ▸ z)).1) q9
      | true, q9 =>
        have knows9 : ∀ (j : Nat) v, (wipe σ (own.map (·.2)))[j]? = some (some v) → (wipe σ8 vs1)[j]? = some (some v) := fun j v z => by
          rw [← ew] at z
          obtain ⟨z1, z2⟩ := wipe_some z
          exact (wipe_out fun k => z2 (sub j k)).trans z1
        refine thnF (pi1.run _ s9 σ8 H9 _ I9 q9) fun xv1 s10 z => thnF z fun iv1 s11 z => ?_
        obtain ⟨ib, fp1, tn1, J1, H11, rfl, I11, T1, st11, f11, W1, ⟨m1, w1⟩, turn1⟩ := z
        have still1 : ∀ {H' : Hp}, (∀ b ∈ fp1, H' b = none) → ∀ b ∈ fp1, FpOk (X.blk s3 H3 scope ce fp) ([] ++ pinsAt fp s7.heap) H' b := fun n b hb => ⟨n b hb, (f11 b hb).2⟩
        have loop1 : codeAny (model X.prog X.w) X.A (.compLoop (.DictComp kx vx [⟨tg, iter, cs, 0⟩, ⟨tg1, iter1, cs1, 0⟩] scope pos) 1 (.ref ib) (.ref D) ce) (fun r s' => match r with
              | .ok _ => ∃ m, m < n ∧ ∃ i H', Inv (X.blk s3 H3 scope ce fp) [] (wipe σ (own.map (·.2))) H' s' ∧ tn i s'.heap ∧ (∀ b ∈ fp, H' b = none) ∧ W i m H'
              | .error _ => False) s11 := by
          refine loop2_in (fun k s' => ∃ j H', Inv (X.blk s3 H3 scope ce fp) ([] ++ pinsAt fp s7.heap) (wipe σ8 vs1) H' s' ∧ tn1 j s'.heap ∧ (∀ b ∈ fp1, H' b = none) ∧ W1 j k H') (fun k s12 ⟨j, H12, I12, st12, n12, w12⟩ => ?_) m1 ⟨0, H11, I11.weak (wipe_length _ _) (fun j v z => (wipe_some z).1), st11, fun b hb => (f11 b hb).1, w1⟩
          rcases turn1 j k H12 w12 with ⟨stop1, fin1⟩ | ⟨go1, N1, nx1, step1⟩
          · refine thnF (T1.done (X.blk s3 H3 scope ce fp) rfl rfl rfl calm j _ s12 (wipe σ8 vs1) H12 (fun _ _ => False) I12 (still1 n12) st12 stop1) fun v s13 z => ?_
            obtain ⟨rfl, I13⟩ := z
            exact end_ I13 (len8.trans (wipe_length σ8 vs1).symm) knows9 fin1
          · refine thnF (T1.item (X.blk s3 H3 scope ce fp) rfl rfl rfl calm j _ s12 (wipe σ8 vs1) H12 (fun _ _ => False) I12 (still1 n12) st12 go1) fun v s13 z => ?_
            obtain ⟨u1, rfl, z⟩ := z
            refine thnF z fun _ s14 z => ?_
            obtain ⟨x1, H14, I14, r14, y14, st14, n14⟩ := z
            have J14 := I14.pinned (still1 n14) (T1.obj _ _ st14)
            refine thnF (pg1.run _ s14 (wipe σ8 vs1) H14 x1 u1 _ J14 r14 (step1 x1 H14 y14)) fun _ s15 z => ?_
            obtain ⟨σ15, H15, I15, ew1, q15⟩ := z
            refine thnF (pt1.run _ s15 σ15 H15 _ I15 q15) fun b1 s16 z => ?_
            obtain ⟨H16, I16, q16⟩ := z
            have end1 : ∀ {s' : Shared} {H' : Hp}, Inv (X.blk s3 H3 scope ce fp) (([] ++ pinsAt fp s7.heap) ++ pinsAt fp1 s14.heap) σ15 H' s' → N1 H' → ∃ m, m < k ∧ ∃ j H', Inv (X.blk s3 H3 scope ce fp) ([] ++ pinsAt fp s7.heap) (wipe σ8 vs1) H' s' ∧ tn1 j s'.heap ∧ (∀ b ∈ fp1, H' b = none) ∧ W1 j m H' := fun {s' H'} K hN => by
              obtain ⟨m, lt, w⟩ := nx1 H' hN
              have pin : ∀ b ∈ fp1, ∀ u, s14.heap.get? b = some u → s'.heap.get? b = some u ∧ H' b = none := fun b hb u z => by
                obtain ⟨z1, z2, _⟩ := K.pin (b, u) (List.mem_append_right _ (List.mem_append_right _ (mem_pinsAt hb z)))
                exact ⟨z1, z2⟩
              refine ⟨m, lt, j + 1, H', K.unpinned.weak ((congrArg List.length ew1.symm).trans (wipe_length ..)) (fun i v z => (wipe_some (ew1 ▸ z)).1), T1.keep _ _ _ st14 fun b hb u z => (pin b hb u z).1, fun b hb => ?_, w⟩
              obtain ⟨u, z, _⟩ := T1.obj _ _ st14 b hb
              exact (pin b hb u z).2
            match b1, q16 with
            | false, q16 => exact end1 I16 q16
            | true, q16 =>
              refine thnF (pk.run _ s16 σ15 H16 _ I16 q16) fun ku s17 z => ?_
              obtain ⟨ky, H17, I17, r17, q17⟩ := z
              refine thnF (pv.run _ s17 σ15 H17 _ I17 q17) fun vu s18 z => ?_
              obtain ⟨vy, H18, I18, r18, H19, put, q19⟩ := z
              exact dictSet_put (X := X.blk s3 H3 scope ce fp) room I18 put r17 r18 fun s19 I19 => end1 I19 q19
        exact start2_ok loop1 (T1.self X.A 0 _ _ _ st11 loop1)
  exact codeAny_compStart_dict loop (T.self X.A 0 _ _ _ st4 loop)
end
end CP

set_option Elab.async false
set_option linter.all false
set_option maxRecDepth 100000
set_option maxHeartbeats 4000000
set_option autoImplicit false
/-! sums of forms, and what forms are worth under a function of their products -/
namespace CP
open L2 PySem PyProof.Rows
/-! ### what is worth what -/
def lin (φ : List Str → Int) (rs : List Tm) : Int := (rs.map fun r => r.2 * φ r.1).sum
theorem lin_nil (φ : List Str → Int) : lin φ [] = 0 := rfl
theorem lin_cons (φ : List Str → Int) (r : Tm) (rs : List Tm) : lin φ (r :: rs) = r.2 * φ r.1 + lin φ rs := by
  unfold lin
  rw [List.map_cons, List.sum_cons]
theorem lin_app (φ : List Str → Int) (rs ss : List Tm) : lin φ (rs ++ ss) = lin φ rs + lin φ ss := by
  unfold lin
  rw [List.map_append, List.sum_append]
theorem lin_put (φ : List Str → Int) (p : List Str) (n : Int) : ∀ rs : List Tm, lin φ (putT rs p n) = lin φ rs + (n - getT rs p) * φ p
  | [] => by
    show lin φ [(p, n)] = 0 + (n - 0) * φ p
    rw [lin_cons, lin_nil, Int.sub_zero, Int.add_comm]
  | r :: rs => by
    unfold putT getT
    by_cases e : r.1 = p
    · rw [if_pos e, if_pos e, lin_cons, lin_cons, e, Int.sub_mul]
      show n * φ p + _ = _
      omega
    · rw [if_neg e, if_neg e, lin_cons, lin_cons, lin_put φ p n rs]
      omega
theorem lin_putS (φ : List Str → Int) (p : List Str) (m : Int) (rs : List Tm) : lin φ (putT rs p (getT rs p + m)) = lin φ rs + m * φ p := by
  rw [lin_put, show getT rs p + m - getT rs p = m by omega]
theorem lin_kept (φ : List Str → Int) : ∀ rs : List Tm, lin φ (keptM rs) = lin φ rs
  | [] => rfl
  | r :: rs => by
    have i := lin_kept φ rs
    unfold keptM at *
    rw [List.filter_cons]
    split
    · rw [lin_cons, lin_cons, i]
    · rename_i h
      have e : r.2 = 0 := by simpa using h
      rw [lin_cons, e, Int.zero_mul, Int.zero_add, i]
theorem lin_mulRow (φ : List Str → Int) (a : Tm) : ∀ (gs acc : List Tm), lin φ (mulRow gs acc a) = lin φ acc + a.2 * lin (fun q => φ (srt (a.1 ++ q))) gs
  | [], acc => by unfold mulRow; rw [List.foldl_nil, lin_nil, Int.mul_zero, Int.add_zero]
  | b :: gs, acc => by
    have i := lin_mulRow φ a gs (mulStep a acc b)
    unfold mulRow at *
    rw [List.foldl_cons, i, lin_cons]
    unfold mulStep
    rw [lin_putS, Int.mul_add, Int.mul_assoc]
    omega
theorem lin_mulR (φ : List Str → Int) (gs : List Tm) : ∀ (fs acc : List Tm), lin φ (fs.foldl (mulRow gs) acc) = lin φ acc + lin (fun p => lin (fun q => φ (srt (p ++ q))) gs) fs
  | [], acc => by rw [List.foldl_nil, lin_nil, Int.add_zero]
  | a :: fs, acc => by
    rw [List.foldl_cons, lin_mulR φ gs fs, lin_mulRow, lin_cons]
    omega
/-! ### sums -/
def addS (n : Int) (acc : List Tm) (r : Tm) : List Tm := putT acc r.1 (getT acc r.1 + r.2 * n)
def timesS (n : Int) (acc : List Tm) (r : Tm) : List Tm := putT acc r.1 (r.2 * n)
def addR (f g : Fm) : List Tm := g.1.foldl (addS f.2) (f.1.foldl (timesS g.2) [])
def addM (f g : Fm) : Fm := madeM (addR f g) (f.2 * g.2)
def negM (f : Fm) : Fm := (f.1.map fun r => (r.1, 0 - r.2), f.2)
theorem putT_new {rs : List Tm} {p : List Str} {n : Int} (h : p ∉ rs.map (·.1)) : putT rs p n = rs ++ [(p, n)] := by
  induction rs with
  | nil => rfl
  | cons r rs ih =>
    unfold putT
    rw [if_neg fun e => h (by rw [← e]; exact List.mem_cons_self ..), ih fun m => h (List.mem_cons_of_mem _ m)]
    rfl
theorem times_eq (n : Int) : ∀ (rs acc : List Tm), (rs.map (·.1)).Nodup → (∀ r ∈ rs, r.1 ∉ acc.map (·.1)) → rs.foldl (timesS n) acc = acc ++ rs.map fun r => (r.1, r.2 * n)
  | [], acc, _, _ => by rw [List.foldl_nil, List.map_nil, List.append_nil]
  | r :: rs, acc, nd, h => by
    rw [List.map_cons, List.nodup_cons] at nd
    have e : timesS n acc r = acc ++ [(r.1, r.2 * n)] := putT_new (h r (List.mem_cons_self ..))
    rw [List.foldl_cons, e, times_eq n rs _ nd.2 fun s hs m => ?_, List.map_cons, List.append_assoc]
    · rfl
    · rw [List.map_append] at m
      rcases List.mem_append.mp m with z | z
      · exact h s (List.mem_cons_of_mem _ hs) z
      · have e2 : s.1 = r.1 := List.mem_singleton.mp z
        exact nd.1 (List.mem_map.mpr ⟨s, hs, e2⟩)
theorem addS_nd {n : Int} : ∀ {rs acc : List Tm}, (acc.map (·.1)).Nodup → ((rs.foldl (addS n) acc).map (·.1)).Nodup
  | [], _, h => h
  | r :: rs, acc, h => addS_nd (rs := rs) (putT_nd h)
theorem addS_len {n : Int} : ∀ {rs acc : List Tm}, (rs.foldl (addS n) acc).length ≤ acc.length + rs.length
  | [], _ => Nat.le_refl _
  | r :: rs, acc => by
    have h1 := addS_len (n := n) (rs := rs) (acc := addS n acc r)
    have h2 : (addS n acc r).length ≤ acc.length + 1 := putT_len ..
    rw [List.foldl_cons, List.length_cons]
    omega
theorem lin_addS (φ : List Str → Int) (n : Int) : ∀ (rs acc : List Tm), lin φ (rs.foldl (addS n) acc) = lin φ acc + n * lin φ rs
  | [], acc => by rw [List.foldl_nil, lin_nil, Int.mul_zero, Int.add_zero]
  | r :: rs, acc => by
    rw [List.foldl_cons, lin_addS φ n rs, lin_cons]
    unfold addS
    rw [lin_putS, Int.mul_add, Int.mul_comm r.2 n, Int.mul_assoc]
    omega
theorem lin_times (φ : List Str → Int) (n : Int) : ∀ rs : List Tm, lin φ (rs.map fun r => (r.1, r.2 * n)) = n * lin φ rs
  | [] => by rw [List.map_nil, lin_nil, Int.mul_zero]
  | r :: rs => by
    rw [List.map_cons, lin_cons, lin_cons, lin_times φ n rs, Int.mul_add]
    show r.2 * n * φ r.1 + _ = _
    rw [Int.mul_comm r.2 n, Int.mul_assoc]
theorem lin_addR (φ : List Str → Int) {f g : Fm} (nd : (f.1.map (·.1)).Nodup) : lin φ (addR f g) = g.2 * lin φ f.1 + f.2 * lin φ g.1 := by
  unfold addR
  rw [lin_addS, times_eq _ _ _ nd (by simp), List.nil_append, lin_times]
theorem lin_neg (φ : List Str → Int) : ∀ rs : List Tm, lin φ (rs.map fun r => (r.1, 0 - r.2)) = 0 - lin φ rs
  | [] => rfl
  | r :: rs => by
    rw [List.map_cons, lin_cons, lin_cons, lin_neg φ rs]
    show (0 - r.2) * φ r.1 + _ = _
    rw [Int.sub_mul, Int.zero_mul]
    omega
/-! ### how great -/
def nrm (rs : List Tm) : Nat := (rs.map fun r => r.2.natAbs).sum
theorem nrm_cons (r : Tm) (rs : List Tm) : nrm (r :: rs) = r.2.natAbs + nrm rs := by unfold nrm; rw [List.map_cons, List.sum_cons]
theorem nrm_put (p : List Str) (n : Int) : ∀ rs : List Tm, nrm (putT rs p n) + (getT rs p).natAbs = nrm rs + n.natAbs
  | [] => by
    show nrm [(p, n)] + 0 = 0 + n.natAbs
    rw [nrm_cons]
    show n.natAbs + 0 + 0 = _
    omega
  | r :: rs => by
    unfold putT getT
    by_cases e : r.1 = p
    · rw [if_pos e, if_pos e, nrm_cons, nrm_cons]
      show n.natAbs + _ + _ = _
      omega
    · rw [if_neg e, if_neg e, nrm_cons, nrm_cons]
      have := nrm_put p n rs
      omega
theorem nrm_putS (p : List Str) (m : Int) (rs : List Tm) : nrm (putT rs p (getT rs p + m)) ≤ nrm rs + m.natAbs := by
  have := nrm_put p (getT rs p + m) rs
  omega
theorem nrm_kept : ∀ rs : List Tm, nrm (keptM rs) ≤ nrm rs
  | [] => Nat.le_refl _
  | r :: rs => by
    have i := nrm_kept rs
    unfold keptM at *
    rw [List.filter_cons, nrm_cons]
    split
    · rw [nrm_cons]; omega
    · omega
theorem nrm_mulRow (a : Tm) : ∀ (gs acc : List Tm), nrm (mulRow gs acc a) ≤ nrm acc + a.2.natAbs * nrm gs
  | [], acc => by unfold mulRow; rw [List.foldl_nil]; omega
  | b :: gs, acc => by
    have i := nrm_mulRow a gs (mulStep a acc b)
    have j := nrm_putS (srt (a.1 ++ b.1)) (a.2 * b.2) acc
    unfold mulRow at *
    rw [List.foldl_cons, nrm_cons, Nat.mul_add]
    rw [Int.natAbs_mul] at j
    unfold mulStep at i
    unfold mulStep
    omega
theorem nrm_mulR (gs : List Tm) : ∀ (fs acc : List Tm), nrm (fs.foldl (mulRow gs) acc) ≤ nrm acc + nrm fs * nrm gs
  | [], acc => by rw [List.foldl_nil]; omega
  | a :: fs, acc => by
    have i := nrm_mulR gs fs (mulRow gs acc a)
    have j := nrm_mulRow a gs acc
    rw [List.foldl_cons, nrm_cons, Nat.add_mul]
    omega
theorem nrm_addS (n : Int) : ∀ (rs acc : List Tm), nrm (rs.foldl (addS n) acc) ≤ nrm acc + n.natAbs * nrm rs
  | [], acc => by rw [List.foldl_nil]; omega
  | r :: rs, acc => by
    have i := nrm_addS n rs (addS n acc r)
    have j := nrm_putS r.1 (r.2 * n) acc
    rw [Int.natAbs_mul] at j
    rw [List.foldl_cons, nrm_cons, Nat.mul_add, Nat.mul_comm n.natAbs]
    unfold addS at i
    unfold addS
    omega
theorem nrm_times (n : Int) : ∀ rs : List Tm, nrm (rs.map fun r => (r.1, r.2 * n)) = n.natAbs * nrm rs
  | [] => rfl
  | r :: rs => by
    rw [List.map_cons, nrm_cons, nrm_cons, nrm_times n rs, Nat.mul_add]
    show (r.2 * n).natAbs + _ = _
    rw [Int.natAbs_mul, Nat.mul_comm]
theorem nrm_neg : ∀ rs : List Tm, nrm (rs.map fun r => (r.1, 0 - r.2)) = nrm rs
  | [] => rfl
  | r :: rs => by
    rw [List.map_cons, nrm_cons, nrm_cons, nrm_neg rs]
    show (0 - r.2).natAbs + _ = _
    omega
/-! ### keys -/
theorem mulRow_keys {a : Tm} {P : List Str → Prop} : ∀ {gs acc : List Tm}, (∀ p ∈ acc.map (·.1), P p) → (∀ b ∈ gs, P (srt (a.1 ++ b.1))) → ∀ p ∈ (mulRow gs acc a).map (·.1), P p
  | [], _, h, _ => h
  | b :: gs, acc, h, g => mulRow_keys (gs := gs) (acc := mulStep a acc b) (fun p hp => (putT_keys_mem hp).elim (h p) fun e => e ▸ g b (List.mem_cons_self ..)) fun c hc => g c (List.mem_cons_of_mem _ hc)
theorem mulR_keys {gs : List Tm} {P : List Str → Prop} : ∀ {fs acc : List Tm}, (∀ p ∈ acc.map (·.1), P p) → (∀ a ∈ fs, ∀ b ∈ gs, P (srt (a.1 ++ b.1))) → ∀ p ∈ (fs.foldl (mulRow gs) acc).map (·.1), P p
  | [], _, h, _ => h
  | a :: fs, acc, h, g => mulR_keys (fs := fs) (acc := mulRow gs acc a) (mulRow_keys h (g a (List.mem_cons_self ..))) fun c hc => g c (List.mem_cons_of_mem _ hc)
theorem addS_keys {n : Int} {P : List Str → Prop} : ∀ {rs acc : List Tm}, (∀ p ∈ acc.map (·.1), P p) → (∀ r ∈ rs, P r.1) → ∀ p ∈ (rs.foldl (addS n) acc).map (·.1), P p
  | [], _, h, _ => h
  | r :: rs, acc, h, g => addS_keys (rs := rs) (acc := addS n acc r) (fun p hp => (putT_keys_mem hp).elim (h p) fun e => e ▸ g r (List.mem_cons_self ..)) fun c hc => g c (List.mem_cons_of_mem _ hc)
/-! ### forms over 1 -/
/-- products of letters in order, each of at most d -/
structure PrOk (d : Nat) (p : List Str) : Prop where
  lets : ∀ w ∈ p, letB w = true
  len : p.length ≤ d
  ord : srt p = p
structure Fz (n d : Nat) (f : Fm) : Prop where
  one : f.2 = 1
  nd : (f.1.map (·.1)).Nodup
  no0 : ∀ r ∈ f.1, r.2 ≠ 0
  keys : ∀ p ∈ f.1.map (·.1), PrOk d p
  small : nrm f.1 ≤ n
theorem nrm_mem {rs : List Tm} {r : Tm} (h : r ∈ rs) : r.2.natAbs ≤ nrm rs := by
  induction rs with
  | nil => cases h
  | cons s rs ih =>
    rw [nrm_cons]
    rcases List.mem_cons.mp h with rfl | h
    · omega
    · have := ih h; omega
theorem nrm_len : ∀ {rs : List Tm}, (∀ r ∈ rs, r.2 ≠ 0) → rs.length ≤ nrm rs
  | [], _ => Nat.le_refl _
  | r :: rs, h => by
    have i := nrm_len fun s hs => h s (List.mem_cons_of_mem _ hs)
    have := h r (List.mem_cons_self ..)
    rw [nrm_cons, List.length_cons]
    omega
theorem Fz.ok {n d : Nat} {f : Fm} (h : Fz n d f) (hn : n ≤ 1000) (hd : d ≤ 1000) : FOk f := by
  have l := nrm_len h.no0
  have s := h.small
  refine ⟨h.nd, by omega, fun r hr => ?_, fun r hr => ?_, by rw [h.one]; decide, by rw [h.one]; decide⟩
  · have k := h.keys r.1 (List.mem_map_of_mem hr)
    exact ⟨k.lets, by have := k.len; omega⟩
  · have := nrm_mem hr
    have : (1000 : Nat) < 2 ^ 200 := by decide
    omega
theorem Fz.mono {n d m e : Nat} {f : Fm} (h : Fz n d f) (hn : n ≤ m) (hd : d ≤ e) : Fz m e f :=
  ⟨h.one, h.nd, h.no0, fun p hp => ⟨(h.keys p hp).lets, Nat.le_trans (h.keys p hp).len hd, (h.keys p hp).ord⟩, Nat.le_trans h.small hn⟩
theorem made_row {rs : List Tm} : madeM rs 1 = (keptM rs, 1) := by
  have p := divM_pos (rs := keptM rs) (u := 1) (by decide)
  have e : divM (keptM rs) 1 = 1 := by omega
  unfold madeM
  rw [e, Int.ediv_one]
  congr 1
  conv => rhs; rw [← List.map_id (keptM rs)]
  refine List.map_congr_left fun r _ => ?_
  rw [Int.ediv_one]
  rfl
theorem Fz.made {n d : Nat} {rs : List Tm} (nd : (rs.map (·.1)).Nodup) (keys : ∀ p ∈ rs.map (·.1), PrOk d p) (small : nrm rs ≤ n) : Fz n d (madeM rs 1) := by
  rw [made_row]
  refine ⟨rfl, kept_nd nd, fun r hr => ?_, fun p hp => ?_, Nat.le_trans (nrm_kept _) small⟩
  · have := (List.mem_filter.mp hr).2
    simpa using this
  · obtain ⟨r, hr, rfl⟩ := List.mem_map.mp hp
    exact keys _ (List.mem_map_of_mem (List.mem_filter.mp hr).1)
theorem Fz.add {n d m : Nat} {f g : Fm} (hf : Fz n d f) (hg : Fz m d g) : Fz (n + m) d (addM f g) := by
  unfold addM
  rw [hf.one, hg.one, Int.mul_one]
  unfold addR
  rw [times_eq _ _ _ hf.nd (by simp), List.nil_append]
  have ek : (f.1.map fun r => (r.1, r.2 * g.2)).map (·.1) = f.1.map (·.1) := by rw [List.map_map]; rfl
  refine Fz.made (addS_nd (by rw [ek]; exact hf.nd)) (addS_keys (by rw [ek]; exact hf.keys) fun r hr => hg.keys _ (List.mem_map_of_mem hr)) ?_
  have a := nrm_addS f.2 g.1 (f.1.map fun r => (r.1, r.2 * g.2))
  rw [nrm_times, hf.one, hg.one] at a
  rw [hf.one, hg.one]
  have := hf.small
  have := hg.small
  simp only [Int.natAbs_one, Nat.one_mul] at a
  omega
theorem Fz.neg {n d : Nat} {f : Fm} (hf : Fz n d f) : Fz n d (negM f) := by
  have ek : (f.1.map fun r => (r.1, 0 - r.2)).map (·.1) = f.1.map (·.1) := by rw [List.map_map]; rfl
  refine ⟨hf.one, by show ((f.1.map fun r => (r.1, 0 - r.2)).map (·.1)).Nodup; rw [ek]; exact hf.nd, fun r hr => ?_, fun p hp => ?_, ?_⟩
  · obtain ⟨s, hs, rfl⟩ := List.mem_map.mp hr
    have := hf.no0 s hs
    show 0 - s.2 ≠ 0
    omega
  · rw [show (negM f).1 = f.1.map fun r => (r.1, 0 - r.2) from rfl, ek] at hp
    exact hf.keys p hp
  · show nrm (f.1.map fun r => (r.1, 0 - r.2)) ≤ n
    rw [nrm_neg]
    exact hf.small
theorem lin_negM {φ : List Str → Int} (f : Fm) : lin φ (negM f).1 = 0 - lin φ f.1 := lin_neg φ f.1
theorem Fz.mul {n d m e : Nat} {f g : Fm} (hf : Fz n d f) (hg : Fz m e g) : Fz (n * m) (d + e) (mulM f g) := by
  unfold mulM
  rw [hf.one, hg.one, Int.mul_one]
  obtain ⟨nd, _⟩ := mulR_ok (gs := g.1) (fs := f.1) (acc := []) (by simp)
  refine Fz.made nd (mulR_keys (by simp) fun a ha b hb => ?_) ?_
  · have ka := hf.keys _ (List.mem_map_of_mem ha)
    have kb := hg.keys _ (List.mem_map_of_mem hb)
    refine ⟨fun w hw => ?_, ?_, srt_srt _⟩
    · rcases List.mem_append.mp (mem_srt.mp hw) with z | z
      · exact ka.lets w z
      · exact kb.lets w z
    · rw [srt_len, List.length_append]
      have := ka.len
      have := kb.len
      omega
  · have a := nrm_mulR g.1 f.1 []
    have b := Nat.mul_le_mul hf.small hg.small
    have c : nrm ([] : List Tm) = 0 := rfl
    show nrm (f.1.foldl (mulRow g.1) []) ≤ n * m
    omega
/-! ### one product, one number -/
theorem lin_mono {φ : List Str → Int} (l : List Str) : lin φ (monoM l).1 = φ (srt l) := by
  show lin φ [(srt l, 1)] = _
  rw [lin_cons, lin_nil, Int.one_mul, Int.add_zero]
theorem Fz.num (n : Int) : Fz n.natAbs 0 (madeM [([], n)] 1) := by
  refine Fz.made (by simp) (fun p hp => ?_) ?_
  · rw [List.mem_singleton.mp hp]
    exact ⟨by simp, Nat.le_refl _, srt_id (l := []) .nil⟩
  · rw [nrm_cons]
    exact Nat.le_refl _
theorem lin_num {φ : List Str → Int} (n : Int) : lin φ (madeM [([], n)] 1).1 = n * φ [] := by
  rw [made_row]
  show lin φ (keptM _) = _
  rw [lin_kept, lin_cons, lin_nil, Int.add_zero]
/-! ### when two forms are one -/
def eqM (f g : Fm) : Bool := sameT (rowsT f.1) (rowsT g.1) && decide (f.2 = g.2)
theorem getT_out : ∀ {rs : List Tm} {p : List Str}, p ∉ rs.map (·.1) → getT rs p = 0
  | [], _, _ => rfl
  | r :: rs, p, h => by
    unfold getT
    rw [if_neg fun e => h (by rw [← e]; exact List.mem_cons_self ..)]
    exact getT_out fun m => h (List.mem_cons_of_mem _ m)
theorem getT_mem : ∀ {rs : List Tm} {r : Tm}, (rs.map (·.1)).Nodup → r ∈ rs → getT rs r.1 = r.2
  | [], _, _, h => nomatch h
  | s :: rs, r, nd, h => by
    rw [List.map_cons, List.nodup_cons] at nd
    unfold getT
    rcases List.mem_cons.mp h with rfl | h
    · rw [if_pos rfl]
    · rw [if_neg fun e => nd.1 (by rw [e]; exact List.mem_map_of_mem h)]
      exact getT_mem nd.2 h
theorem getT_cons (r : Tm) (rs : List Tm) (p : List Str) : getT (r :: rs) p = if r.1 = p then r.2 else getT rs p := rfl
theorem lin_delta (p : List Str) : ∀ {rs : List Tm}, (rs.map (·.1)).Nodup → lin (fun q => if q = p then 1 else 0) rs = getT rs p
  | [], _ => rfl
  | r :: rs, nd => by
    rw [List.map_cons, List.nodup_cons] at nd
    rw [lin_cons, lin_delta p nd.2, getT_cons]
    by_cases e : r.1 = p
    · rw [if_pos e, if_pos e, getT_out (rs := rs) (p := p) (by rw [← e]; exact nd.1)]
      omega
    · rw [if_neg e, if_neg e]
      omega
theorem valV_row : ∀ {rs : List Tm} {r : Tm}, (rs.map (·.1)).Nodup → r ∈ rs → valV (rowsT rs) (keyT r.1) = some (.int r.2)
  | [], _, _, h => nomatch h
  | s :: rs, r, nd, h => by
    rw [List.map_cons, List.nodup_cons] at nd
    show valV ((keyT s.1, V.int s.2) :: rowsT rs) (keyT r.1) = _
    rcases List.mem_cons.mp h with rfl | h
    · rw [valV_pos rfl]
    · rw [valV_neg fun e => nd.1 (by rw [keyT_inj e]; exact List.mem_map_of_mem h)]
      exact valV_row nd.2 h
theorem lin_perm {φ : List Str → Int} {rs ss : List Tm} (p : rs.Perm ss) : lin φ rs = lin φ ss := by
  induction p with
  | nil => rfl
  | cons x _ ih => rw [lin_cons, lin_cons, ih]
  | swap x y l => rw [lin_cons, lin_cons, lin_cons, lin_cons]; omega
  | trans _ _ ih ih2 => rw [ih, ih2]
theorem eq_lin {f g : Fm} (nf : (f.1.map (·.1)).Nodup) (ng : (g.1.map (·.1)).Nodup) (h : eqM f g = true) : ∀ φ, lin φ f.1 = lin φ g.1 := by
  unfold eqM sameT at h
  rw [Bool.and_eq_true, Bool.and_eq_true, List.all_eq_true] at h
  obtain ⟨⟨hl, ha⟩, _⟩ := h
  have hl := of_decide_eq_true hl
  rw [rowsT_len, rowsT_len] at hl
  have sub : ∀ r ∈ f.1, r ∈ g.1 := fun r hr => by
    have := of_decide_eq_true (ha (keyT r.1, V.int r.2) (List.mem_map.mpr ⟨r, hr, rfl⟩))
    obtain ⟨p, hp, e1, e2⟩ := valV_mem this
    obtain ⟨s, hs, rfl⟩ := List.mem_map.mp hp
    have e1 : s.1 = r.1 := keyT_inj e1
    have e2 : s.2 = r.2 := by
      have : V.int s.2 = V.int r.2 := e2
      injection this
    have : s = r := Prod.ext e1 e2
    rwa [← this]
  have ndf : f.1.Nodup := List.Pairwise.of_map _ (fun a b ne e => ne (by rw [e])) nf
  have ndg : g.1.Nodup := List.Pairwise.of_map _ (fun a b ne e => ne (by rw [e])) ng
  have p : f.1.Perm g.1 := (List.perm_ext_iff_of_nodup ndf ndg).mpr fun r => ⟨sub r, fun hr => by
    refine Classical.byContradiction fun no => ?_
    have : (r :: f.1).length ≤ g.1.length := List.Nodup.length_le_of_subset (List.nodup_cons.mpr ⟨no, ndf⟩) fun x hx => by
      rcases List.mem_cons.mp hx with rfl | hx
      · exact hr
      · exact sub x hx
    rw [List.length_cons] at this
    omega⟩
  exact fun φ => lin_perm p
end CP

set_option Elab.async false
set_option linter.all false
set_option maxRecDepth 100000
set_option maxHeartbeats 4000000
set_option autoImplicit false
/-! an own operator between an instance and a number; an own minus -/
namespace CP
open L2 PySem PyProof.Rows
structure IntOp (K : PySem.W.Frag) (C : Addr) (nm rn : Str) (fo ro : Option Value) : Prop where
  rev : PySem.W.findIn K (.ref C) rn = some none
  one : PySem.W.findIn K (.type "int") nm = some fo
  two : PySem.W.findIn K (.type "int") rn = some ro
  sub : PySem.W.subIn K (.type "int") (.ref C) = some false
def rBinI (C : Addr) (sp : Sp) (E : XK) : R2 := fun x y H Q => ∃ a n dx fs, x = .ref a ∧ y = .int n ∧ H a = some (.ins C dx fs) ∧ sp [x, y] H (fun v H' => ∃ p, v = .ref p ∧ Q (.ref p) H') E
def rNegO (C : Addr) (sp : Sp) (E : XK) : V → Hp → VK → Prop := fun x H Q => ∃ a dx fs, x = .ref a ∧ H a = some (.ins C dx fs) ∧ sp [x] H Q E
section
variable {X : Cx} {CX : CXT} {k : Nat} {C f : Addr} {fd : FuncData} {ps : List Str} {sp : Sp} {E : XK} {nm rn : Str} {op : Operator} {fo ro : Option Value}
theorem op_binI (en : PySem.dunder op.info.2 = nm) (er : PySem.dunderR op.info.2 = rn) (O : OwnOps X.K C) (M : Meth X.K C nm f) (Z : IntOp X.K C nm rn fo ro) (F : FnOk X.prog X.w X.K X.mg X.base CX k f fd ps sp) (hr : Room (k + 1) X.A) (hb : Binds X.K fd ps []) (hx : Passes CX X E) : OpR X (binaryOp op) (rBinI C sp E) := by
  intro pins s σ H x y v u Q I rx ry h
  obtain ⟨a, n, dx, fs, rfl, rfl, ha, pr⟩ := h
  cases rx
  obtain ⟨tk, rfl⟩ := ry
  obtain ⟨mA, J, _⟩ := ins_get I.hok ha
  obtain ⟨o1, J, _⟩ := J.look
  obtain ⟨m, hF⟩ := I.fr
  cases en
  cases er
  refine PySem.W.ksp_binT (op := op) hF I.ok.mod.kin J rfl O.first M.at_ M.fn Z.rev (.inl rfl) Z.one Z.two Z.sub ?_
  have hl := F.len _ _ _ _ pr
  have r2 : Vals [V.ref a, V.int n] [Value.ref a, Value.int n tk] := .cons rfl (.cons ⟨tk, rfl⟩ .nil)
  refine wpAny_call (codeAny_mono (F.run X.A X.stack s H ⟨[.ref a, .int n tk], []⟩ [.ref a, .int n tk] [.ref a, .int n] _ E (hr.mono (by omega)) I.env0 (by
    have z := hb s [.ref a, .int n tk] I.kIn (by simpa using hl)
    simpa using z) r2 pr) fun r s' z => ?_)
  match r, z with
  | .error e, z => exact hx pins σ H s e s' I z
  | .ok (.ret t), z =>
    obtain ⟨zv, H', I', rz, p, ep, q⟩ := I.after z
    subst ep
    cases rz
    exact ⟨.ref p, H', I', rfl, q⟩
theorem un_negO (M : Meth X.K C "__neg__" f) (F : FnOk X.prog X.w X.K X.mg X.base CX k f fd ps sp) (hr : Room (k + 1) X.A) (hb : Binds X.K fd ps []) (hx : Passes CX X E) : UnR X (unaryOp .USub) (rNegO C sp E) := by
  intro pins s σ H x v Q I rx h
  obtain ⟨a, dx, fs, rfl, ha, pr⟩ := h
  cases rx
  obtain ⟨mA, J, _⟩ := ins_get I.hok ha
  obtain ⟨o1, J, _⟩ := J.look
  obtain ⟨m, hF⟩ := I.fr
  refine PySem.W.ksp_neg hF I.ok.mod.kin J M.at_ M.fn ?_
  have hl := F.len _ _ _ _ pr
  refine wpAny_call (codeAny_mono (F.run X.A X.stack s H ⟨[.ref a], []⟩ [.ref a] [.ref a] _ E (hr.mono (by omega)) I.env0 (by
    have z := hb s [.ref a] I.kIn (by simpa using hl)
    simpa using z) (.cons rfl .nil) pr) fun r s' z => ?_)
  match r, z with
  | .error e, z => exact hx pins σ H s e s' I z
  | .ok (.ret t), z => exact I.after z
end
end CP

set_option Elab.async false
set_option linter.all false
set_option maxRecDepth 100000
set_option maxHeartbeats 4000000
set_option autoImplicit false
/-! forms over any divisor: how great, and what they are worth -/
namespace CP
open L2 PySem PyProof.Rows
/-! ### the divisor is divided out -/
theorem divM_dvd : ∀ (rs : List Tm) (u : Int), divM rs u ∣ u ∧ ∀ r ∈ rs, divM rs u ∣ r.2
  | [], u => ⟨Int.dvd_refl u, by simp⟩
  | r :: rs, u => by
    obtain ⟨h1, h2⟩ := divM_dvd rs (Int.gcd u r.2 : Nat)
    have e : divM (r :: rs) u = divM rs (Int.gcd u r.2 : Nat) := rfl
    rw [e]
    refine ⟨Int.dvd_trans h1 (Int.gcd_dvd_left ..), fun s hs => ?_⟩
    rcases List.mem_cons.mp hs with rfl | hs
    · exact Int.dvd_trans h1 (Int.gcd_dvd_right ..)
    · exact h2 s hs
theorem lin_ediv (φ : List Str → Int) (g : Int) : ∀ rs : List Tm, (∀ r ∈ rs, g ∣ r.2) → lin φ (rs.map fun r => (r.1, r.2 / g)) * g = lin φ rs
  | [], _ => by rw [List.map_nil, lin_nil, Int.zero_mul]
  | r :: rs, h => by
    have i := lin_ediv φ g rs fun s hs => h s (List.mem_cons_of_mem _ hs)
    have e := Int.ediv_mul_cancel (h r (List.mem_cons_self ..))
    rw [List.map_cons, lin_cons, lin_cons, Int.add_mul, i]
    congr 1
    show r.2 / g * φ r.1 * g = _
    rw [Int.mul_right_comm, e]
theorem made_lin (φ : List Str → Int) {rs : List Tm} {u : Int} : lin φ (madeM rs u).1 * u = lin φ rs * (madeM rs u).2 := by
  obtain ⟨d1, d2⟩ := divM_dvd (keptM rs) u
  have e1 := lin_ediv φ (divM (keptM rs) u) (keptM rs) d2
  have e2 := Int.ediv_mul_cancel d1
  rw [lin_kept] at e1
  show lin φ ((keptM rs).map fun r => (r.1, r.2 / divM (keptM rs) u)) * u = lin φ rs * (u / divM (keptM rs) u)
  generalize lin φ ((keptM rs).map fun r => (r.1, r.2 / divM (keptM rs) u)) = A at *
  generalize u / divM (keptM rs) u = B at *
  generalize divM (keptM rs) u = g at *
  rw [← e1, ← e2]
  grind
theorem nrm_ediv {g : Int} (hg : 0 < g) : ∀ rs : List Tm, nrm (rs.map fun r => (r.1, r.2 / g)) ≤ nrm rs
  | [] => Nat.le_refl _
  | r :: rs => by
    have i := nrm_ediv hg rs
    rw [List.map_cons, nrm_cons, nrm_cons]
    have : (r.2 / g).natAbs ≤ r.2.natAbs := Int.natAbs_ediv_le_natAbs ..
    show (r.2 / g).natAbs + _ ≤ _
    omega
/-- what is known of a form: letters among L, at most t terms, degree at most d, norm below 2 ^ b, divisor below 2 ^ e -/
structure Fq (L : List Str) (t d b e : Nat) (f : Fm) : Prop where
  nd : (f.1.map (·.1)).Nodup
  no0 : ∀ r ∈ f.1, r.2 ≠ 0
  keys : ∀ p ∈ f.1.map (·.1), (∀ w ∈ p, w ∈ L) ∧ p.length ≤ d ∧ srt p = p
  len : f.1.length ≤ t
  small : nrm f.1 < 2 ^ b
  pos : 0 < f.2
  den : f.2 < ((2 ^ e : Nat) : Int)
theorem pow_up {a b : Nat} (h : a ≤ b) : 2 ^ a ≤ 2 ^ b := Nat.pow_le_pow_right (by decide) h
theorem Fq.up {L M : List Str} {t d b e t' d' b' e' : Nat} {f : Fm} (h : Fq L t d b e f) (hL : ∀ w ∈ L, w ∈ M) (ht : t ≤ t') (hd : d ≤ d') (hb : b ≤ b') (he : e ≤ e') : Fq M t' d' b' e' f :=
  ⟨h.nd, h.no0, fun p hp => ⟨fun w hw => hL w ((h.keys p hp).1 w hw), Nat.le_trans (h.keys p hp).2.1 hd, (h.keys p hp).2.2⟩, Nat.le_trans h.len ht, Nat.lt_of_lt_of_le h.small (pow_up hb), h.pos, Int.lt_of_lt_of_le h.den (Int.ofNat_le.mpr (pow_up he))⟩
theorem Fq.ok {L : List Str} {t d b e : Nat} {f : Fm} (h : Fq L t d b e f) (hL : ∀ w ∈ L, letB w = true) (ht : t ≤ 1000) (hd : d ≤ 1000) (hb : b ≤ 200) (he : e ≤ 200) : FOk f := by
  refine ⟨h.nd, Nat.le_trans h.len ht, fun r hr => ?_, fun r hr => ?_, h.pos, ?_⟩
  · have k := h.keys r.1 (List.mem_map_of_mem hr)
    exact ⟨fun w hw => hL w (k.1 w hw), by have := k.2.1; omega⟩
  · have := nrm_mem hr
    have := h.small
    have := pow_up hb
    omega
  · have := h.den
    have := pow_up he
    omega
theorem Fq.made {L : List Str} {t d b e : Nat} {rs : List Tm} {u : Int} (nd : (rs.map (·.1)).Nodup) (keys : ∀ p ∈ rs.map (·.1), (∀ w ∈ p, w ∈ L) ∧ p.length ≤ d ∧ srt p = p) (len : rs.length ≤ t) (small : nrm rs < 2 ^ b) (pos : 0 < u) (den : u < ((2 ^ e : Nat) : Int)) : Fq L t d b e (madeM rs u) := by
  obtain ⟨g1, g2⟩ := divM_pos (rs := keptM rs) pos
  obtain ⟨d1, d2⟩ := divM_dvd (keptM rs) u
  have ek : ((keptM rs).map fun r => (r.1, r.2 / divM (keptM rs) u)).map (·.1) = (keptM rs).map (·.1) := by rw [List.map_map]; rfl
  refine ⟨?_, fun r hr => ?_, fun p hp => ?_, ?_, ?_, ?_, ?_⟩
  · show (((keptM rs).map fun r => (r.1, r.2 / divM (keptM rs) u)).map (·.1)).Nodup
    rw [ek]
    exact kept_nd nd
  · obtain ⟨s, hs, rfl⟩ := List.mem_map.mp hr
    have n0 : s.2 ≠ 0 := by simpa using (List.mem_filter.mp hs).2
    have e := Int.ediv_mul_cancel (d2 s hs)
    intro z
    have z : s.2 / divM (keptM rs) u = 0 := z
    rw [z, Int.zero_mul] at e
    exact n0 e.symm
  · have hp : p ∈ ((keptM rs).map fun r => (r.1, r.2 / divM (keptM rs) u)).map (·.1) := hp
    rw [ek] at hp
    obtain ⟨r, hr, rfl⟩ := List.mem_map.mp hp
    exact keys _ (List.mem_map_of_mem (List.mem_filter.mp hr).1)
  · show ((keptM rs).map fun r => (r.1, r.2 / divM (keptM rs) u)).length ≤ t
    rw [List.length_map]
    exact Nat.le_trans (kept_len rs) len
  · have := nrm_ediv g1 (keptM rs)
    have := nrm_kept rs
    show nrm ((keptM rs).map fun r => (r.1, r.2 / divM (keptM rs) u)) < 2 ^ b
    omega
  · show 0 < u / divM (keptM rs) u
    exact Int.ediv_pos_of_pos_of_dvd pos (by omega) d1
  · have := Int.ediv_le_self (divM (keptM rs) u) (show 0 ≤ u by omega)
    show u / divM (keptM rs) u < _
    omega
theorem Fq.add {L : List Str} {t1 t2 d b1 b2 b e1 e2 : Nat} {f g : Fm} (hf : Fq L t1 d b1 e1 f) (hg : Fq L t2 d b2 e2 g) (h1 : b1 + e2 < b) (h2 : b2 + e1 < b) : Fq L (t1 + t2) d b (e1 + e2) (addM f g) := by
  have ek : (f.1.map fun r => (r.1, r.2 * g.2)).map (·.1) = f.1.map (·.1) := by rw [List.map_map]; rfl
  have te : f.1.foldl (timesS g.2) [] = f.1.map fun r => (r.1, r.2 * g.2) := by rw [times_eq _ _ _ hf.nd (by simp), List.nil_append]
  have fp := hf.pos
  have gp := hg.pos
  have ed : f.2 * g.2 < ((2 ^ (e1 + e2) : Nat) : Int) := by
    have a := hf.den
    have c := hg.den
    rw [Nat.pow_add, Int.natCast_mul]
    exact Int.mul_lt_mul a (by omega) gp (by omega)
  unfold addM addR
  rw [te]
  refine Fq.made (addS_nd (by rw [ek]; exact hf.nd)) (addS_keys (by rw [ek]; exact hf.keys) fun r hr => hg.keys _ (List.mem_map_of_mem hr)) ?_ ?_ (Int.mul_pos fp gp) ed
  · have := addS_len (n := f.2) (rs := g.1) (acc := f.1.map fun r => (r.1, r.2 * g.2))
    rw [List.length_map] at this
    have := hf.len
    have := hg.len
    omega
  · have a := nrm_addS f.2 g.1 (f.1.map fun r => (r.1, r.2 * g.2))
    rw [nrm_times] at a
    have c1 : g.2.natAbs * nrm f.1 < 2 ^ (b1 + e2) := by
      rw [Nat.mul_comm, Nat.pow_add]
      have := hf.small
      have : g.2.natAbs < 2 ^ e2 := by have := hg.den; omega
      exact Nat.mul_lt_mul'' hf.small this
    have c2 : f.2.natAbs * nrm g.1 < 2 ^ (b2 + e1) := by
      rw [Nat.mul_comm, Nat.pow_add]
      have : f.2.natAbs < 2 ^ e1 := by have := hf.den; omega
      exact Nat.mul_lt_mul'' hg.small this
    have p1 : 2 ^ (b1 + e2) ≤ 2 ^ (b - 1) := pow_up (by omega)
    have p2 : 2 ^ (b2 + e1) ≤ 2 ^ (b - 1) := pow_up (by omega)
    have p3 : 2 ^ b = 2 ^ (b - 1) * 2 := by rw [← Nat.pow_succ]; congr 1; omega
    omega
theorem Fq.mul {L : List Str} {t1 t2 d1 d2 b1 b2 e1 e2 : Nat} {f g : Fm} (hf : Fq L t1 d1 b1 e1 f) (hg : Fq L t2 d2 b2 e2 g) : Fq L (t1 * t2) (d1 + d2) (b1 + b2) (e1 + e2) (mulM f g) := by
  obtain ⟨nd, hl⟩ := mulR_ok (gs := g.1) (fs := f.1) (acc := []) (by simp)
  have fp := hf.pos
  have gp := hg.pos
  have ed : f.2 * g.2 < ((2 ^ (e1 + e2) : Nat) : Int) := by
    have a := hf.den
    have c := hg.den
    rw [Nat.pow_add, Int.natCast_mul]
    exact Int.mul_lt_mul a (by omega) gp (by omega)
  unfold mulM
  refine Fq.made nd (mulR_keys (by simp) fun a ha b hb => ?_) ?_ ?_ (Int.mul_pos fp gp) ed
  · have ka := hf.keys _ (List.mem_map_of_mem ha)
    have kb := hg.keys _ (List.mem_map_of_mem hb)
    refine ⟨fun w hw => ?_, ?_, srt_srt _⟩
    · rcases List.mem_append.mp (mem_srt.mp hw) with z | z
      · exact ka.1 w z
      · exact kb.1 w z
    · rw [srt_len, List.length_append]
      have := ka.2.1
      have := kb.2.1
      omega
  · have := Nat.mul_le_mul hf.len hg.len
    have : (mulR f.1 g.1).length ≤ ([] : List Tm).length + f.1.length * g.1.length := hl
    simp only [List.length_nil] at this
    omega
  · have a := nrm_mulR g.1 f.1 []
    have c : nrm ([] : List Tm) = 0 := rfl
    have m := Nat.mul_lt_mul'' hf.small hg.small
    rw [← Nat.pow_add] at m
    show nrm (f.1.foldl (mulRow g.1) []) < _
    omega
theorem Fq.neg {L : List Str} {t d b e : Nat} {f : Fm} (hf : Fq L t d b e f) : Fq L t d b e (negM f) := by
  have ek : (f.1.map fun r => (r.1, 0 - r.2)).map (·.1) = f.1.map (·.1) := by rw [List.map_map]; rfl
  refine ⟨by show ((f.1.map fun r => (r.1, 0 - r.2)).map (·.1)).Nodup; rw [ek]; exact hf.nd, fun r hr => ?_, fun p hp => ?_, ?_, ?_, hf.pos, hf.den⟩
  · obtain ⟨s, hs, rfl⟩ := List.mem_map.mp hr
    have := hf.no0 s hs
    show 0 - s.2 ≠ 0
    omega
  · rw [show (negM f).1 = f.1.map fun r => (r.1, 0 - r.2) from rfl, ek] at hp
    exact hf.keys p hp
  · show (f.1.map fun r => (r.1, 0 - r.2)).length ≤ t
    rw [List.length_map]
    exact hf.len
  · show nrm (f.1.map fun r => (r.1, 0 - r.2)) < _
    rw [nrm_neg]
    exact hf.small
/-- divided by a whole number -/
def overM (f : Fm) (n : Int) : Fm := madeM (if 0 < n then f else negM f).1 (f.2 * (n.natAbs : Int))
theorem Fq.over {L : List Str} {t d b e k : Nat} {f : Fm} {n : Int} (hf : Fq L t d b e f) (n0 : n ≠ 0) (nk : n.natAbs < 2 ^ k) : Fq L t d b (e + k) (overM f n) := by
  have hg : Fq L t d b e (if 0 < n then f else negM f) := by
    split
    · exact hf
    · exact hf.neg
  have fp := hf.pos
  refine Fq.made hg.nd hg.keys hg.len hg.small (Int.mul_pos fp (by omega)) ?_
  rw [Nat.pow_add, Int.natCast_mul]
  have n1 : (n.natAbs : Int) < ((2 ^ k : Nat) : Int) := by omega
  exact Int.mul_lt_mul hf.den (by omega) (by omega) (Int.natCast_nonneg _)
theorem Fq.num {L : List Str} (n : Int) {b : Nat} (h : n.natAbs < 2 ^ b) : Fq L 1 0 b 1 (madeM [([], n)] 1) := by
  refine Fq.made (by simp) (fun p hp => ?_) (Nat.le_refl _) ?_ (by decide) (by decide)
  · rw [List.mem_singleton.mp hp]
    exact ⟨by simp, Nat.le_refl _, srt_id (l := []) .nil⟩
  · rw [nrm_cons]
    exact h
theorem Fq.one {L : List Str} {w : Str} (h : w ∈ L) : Fq L 1 1 1 1 (monoM [w]) := by
  have e : srt [w] = [w] := srt_id (l := [w]) (by simp)
  refine ⟨by simp [monoM], fun r hr => ?_, fun p hp => ?_, Nat.le_refl _, by show nrm [(srt [w], 1)] < 2; rw [nrm_cons]; show 1 + 0 < 2; omega, by show (0 : Int) < 1; decide, by show (1 : Int) < 2; decide⟩
  · rw [List.mem_singleton.mp hr]
    exact (by decide : (1 : Int) ≠ 0)
  · rw [List.mem_singleton.mp hp]
    show (∀ v ∈ srt [w], v ∈ L) ∧ (srt [w]).length ≤ 1 ∧ srt (srt [w]) = srt [w]
    rw [e, e]
    exact ⟨fun v hv => by rw [List.mem_singleton.mp hv]; exact h, Nat.le_refl _, rfl⟩
theorem Fq.letters {L : List Str} {t d b e : Nat} {f : Fm} (hf : Fq L t d b e f) (nd : L.Nodup) : (sset (f.1.flatMap fun r => r.1)).length ≤ L.length :=
  List.Nodup.length_le_of_subset (sset_nodup _) fun w hw => by
    obtain ⟨r, hr, k⟩ := List.mem_flatMap.mp (mem_sset.mp hw)
    exact (hf.keys r.1 (List.mem_map_of_mem hr)).1 w k
/-! ### what forms are worth at values -/
/-- the form is worth a / w -/
def Worth (v : Str → Int) (f : Fm) (a w : Int) : Prop := 0 < w ∧ lin (prodF v) f.1 * w = a * f.2
theorem prodS {v : Str → Int} {l : List Str} : prodF v (srt l) = prodF v l := prodF_perm (srt_perm l)
theorem Worth.num (v : Str → Int) (n : Int) : Worth v (madeM [([], n)] 1) n 1 := by
  refine ⟨by decide, ?_⟩
  rw [lin_num, made_row]
  show n * 1 * 1 = n * 1
  omega
theorem Worth.one (v : Str → Int) (w : Str) : Worth v (monoM [w]) (v w) 1 := by
  refine ⟨by decide, ?_⟩
  rw [lin_mono, prodS]
  show prodF v [w] * 1 = v w * 1
  rw [prodF_cons]
  show v w * prodF v [] * 1 = _
  rw [show prodF v [] = 1 from rfl, Int.mul_one]
theorem Worth.neg {v : Str → Int} {f : Fm} {a w : Int} (h : Worth v f a w) : Worth v (negM f) (0 - a) w := by
  obtain ⟨w0, h⟩ := h
  refine ⟨w0, ?_⟩
  rw [lin_negM]
  show _ = (0 - a) * f.2
  grind
theorem cancelF {x y c : Int} (h : x * c = y * c) (n : 0 < c) : x = y := Int.eq_of_mul_eq_mul_right (by omega) h
theorem Worth.add {v : Str → Int} {f g : Fm} {a w b x : Int} (nd : (f.1.map (·.1)).Nodup) (fp : 0 < f.2) (gp : 0 < g.2) (h : Worth v f a w) (k : Worth v g b x) : Worth v (addM f g) (a * x + b * w) (w * x) := by
  obtain ⟨w0, h⟩ := h
  obtain ⟨x0, k⟩ := k
  refine ⟨Int.mul_pos w0 x0, ?_⟩
  have e : lin (prodF v) (addM f g).1 * (f.2 * g.2) = lin (prodF v) (addR f g) * (addM f g).2 := made_lin (prodF v)
  rw [lin_addR (prodF v) nd] at e
  refine cancelF ?_ (Int.mul_pos fp gp)
  generalize lin (prodF v) (addM f g).1 = A at *
  generalize (addM f g).2 = S at *
  generalize lin (prodF v) f.1 = M at *
  generalize lin (prodF v) g.1 = N at *
  generalize f.2 = F at *
  generalize g.2 = G at *
  grind
theorem lin_mulRF {v : Str → Int} (fs gs : List Tm) : lin (prodF v) (mulR fs gs) = lin (prodF v) fs * lin (prodF v) gs := by
  have e1 : ∀ (p : List Str) (gs : List Tm), lin (fun q => prodF v (srt (p ++ q))) gs = prodF v p * lin (prodF v) gs := fun p gs => by
    induction gs with
    | nil => rw [lin_nil, lin_nil, Int.mul_zero]
    | cons r gs ih =>
      rw [lin_cons, lin_cons, ih, prodS, prodF_append]
      grind
  unfold mulR
  rw [lin_mulR, lin_nil, Int.zero_add]
  induction fs with
  | nil => rw [lin_nil, lin_nil, Int.zero_mul]
  | cons r fs ih =>
    rw [lin_cons, lin_cons, ih, e1]
    grind
theorem Worth.mul {v : Str → Int} {f g : Fm} {a w b x : Int} (fp : 0 < f.2) (gp : 0 < g.2) (h : Worth v f a w) (k : Worth v g b x) : Worth v (mulM f g) (a * b) (w * x) := by
  obtain ⟨w0, h⟩ := h
  obtain ⟨x0, k⟩ := k
  refine ⟨Int.mul_pos w0 x0, ?_⟩
  have e : lin (prodF v) (mulM f g).1 * (f.2 * g.2) = lin (prodF v) (mulR f.1 g.1) * (mulM f g).2 := made_lin (prodF v)
  rw [lin_mulRF] at e
  refine cancelF ?_ (Int.mul_pos fp gp)
  generalize lin (prodF v) (mulM f g).1 = A at *
  generalize (mulM f g).2 = S at *
  generalize lin (prodF v) f.1 = M at *
  generalize lin (prodF v) g.1 = N at *
  generalize f.2 = F at *
  generalize g.2 = G at *
  grind
theorem Worth.over {v : Str → Int} {f : Fm} {a w n : Int} (fp : 0 < f.2) (n0 : n ≠ 0) (h : Worth v f a w) : Worth v (overM f n) (if 0 < n then a else 0 - a) (w * (n.natAbs : Int)) := by
  have hm : 0 < (n.natAbs : Int) := by omega
  have h2 : Worth v (if 0 < n then f else negM f) (if 0 < n then a else 0 - a) w := by
    split
    · exact h
    · exact h.neg
  have e2 : (if 0 < n then f else negM f).2 = f.2 := by split <;> rfl
  obtain ⟨w0, h2⟩ := h2
  rw [e2] at h2
  refine ⟨Int.mul_pos w0 hm, ?_⟩
  have e : lin (prodF v) (overM f n).1 * (f.2 * (n.natAbs : Int)) = lin (prodF v) (if 0 < n then f else negM f).1 * (overM f n).2 := made_lin (prodF v)
  refine cancelF ?_ (Int.mul_pos fp hm)
  generalize lin (prodF v) (overM f n).1 = A at *
  generalize (overM f n).2 = S at *
  generalize lin (prodF v) (if 0 < n then f else negM f).1 = M at *
  generalize (n.natAbs : Int) = m at *
  generalize (if 0 < n then a else 0 - a) = b at *
  generalize f.2 = F at *
  grind
/-- the whole number that a fraction is, or None -/
def wholeV (a w : Int) : V := if a % w = 0 then .int (a / w) else .non
theorem whole_same {A u a w : Int} (u0 : 0 < u) (w0 : 0 < w) (h : A * w = a * u) : wholeV A u = wholeV a w := by
  unfold wholeV
  by_cases k : A % u = 0
  · have e := Int.ediv_mul_cancel (Int.dvd_of_emod_eq_zero k)
    have ea : a = A / u * w := by
      refine cancelF ?_ u0
      rw [← h]
      generalize A / u = z at e ⊢
      rw [← e]
      grind
    have k2 : a % w = 0 := by rw [ea]; exact Int.mul_emod_left ..
    rw [if_pos k, if_pos k2]
    congr 1
    conv => rhs; rw [ea]
    exact (Int.mul_ediv_cancel _ (by omega)).symm
  · have k2 : ¬ a % w = 0 := fun z => k (by
      have e := Int.ediv_mul_cancel (Int.dvd_of_emod_eq_zero z)
      have ea : A = a / w * u := by
        refine cancelF ?_ w0
        rw [h]
        generalize a / w = y at e ⊢
        rw [← e]
        grind
      rw [ea]
      exact Int.mul_emod_left ..)
    rw [if_neg k, if_neg k2]
/-- great products -/
theorem prodF_abs {v : Str → Int} {k : Nat} : ∀ {l : List Str}, (∀ w ∈ l, (v w).natAbs ≤ 2 ^ k) → (prodF v l).natAbs ≤ 2 ^ (k * l.length)
  | [], _ => by show (1 : Int).natAbs ≤ _; rw [List.length_nil, Nat.mul_zero]; decide
  | w :: l, h => by
    have i := prodF_abs (l := l) fun x hx => h x (List.mem_cons_of_mem _ hx)
    rw [prodF_cons, Int.natAbs_mul, List.length_cons, Nat.mul_add, Nat.mul_one, Nat.add_comm, Nat.pow_add]
    exact Nat.mul_le_mul (h w (List.mem_cons_self ..)) i
end CP

set_option Elab.async false
set_option linter.all false
set_option maxRecDepth 100000
set_option maxHeartbeats 4000000
set_option autoImplicit false
/-! tuples that are known to bear no dict of their own, and dicts whose keys are such tuples -/
namespace CP
open L2 PySem PyProof.Rows
/-- the program and the world, for the keys' hashes -/
abbrev Pw := Program × World
abbrev kz (z : Pw) : HeapKind z.1 z.2 (List Key) := tupleKind (mixKind z.1 z.2)
/-- a tuple without a dict -/
def TupZ (H : Hp) (q : Addr) (xs : List V) : Prop := ∃ o, H q = some (.frz o (.tup xs)) ∧ o.dict = none
theorem TupZ.mono {H H' : Hp} {q : Addr} {xs : List V} (h : TupZ H q xs) (s : Same H H') : TupZ H' q xs := let ⟨o, e, d⟩ := h; ⟨o, s _ _ e, d⟩
theorem TupZ.rd {H : Hp} {q : Addr} {xs : List V} (h : TupZ H q xs) : Rd H q (.tup xs) := let ⟨o, e, _⟩ := h; .inr ⟨o, e⟩
theorem TupZ.sq {K : PySem.W.Frag} {H : Hp} {q : Addr} {xs : List V} (h : TupZ H q xs) : SqT K H q xs := .inl h.rd
/-- the heap in which such tuples alone are seen -/
def unz (H : Hp) : Hp := fun b => match H b with
  | some (.frz o (.tup xs)) => if o.dict = none then some (.tup xs) else none
  | _ => none
theorem unz_of {H : Hp} {b : Addr} {xs : List V} (h : TupZ H b xs) : unz H b = some (.tup xs) := by
  obtain ⟨o, e, d⟩ := h
  unfold unz
  rw [e]
  exact if_pos d
theorem of_unz {H : Hp} {b : Addr} {u : HO} (h : unz H b = some u) : ∃ xs, u = .tup xs ∧ TupZ H b xs := by
  unfold unz at h
  split at h
  · rename_i o xs e
    by_cases d : o.dict = none
    · rw [if_pos d] at h
      exact ⟨xs, (Option.some.inj h).symm, o, e, d⟩
    · rw [if_neg d] at h
      cases h
  · cases h
theorem unz_tup {H : Hp} {b : Addr} {xs : List V} (h : unz H b = some (.tup xs)) : TupZ H b xs := by
  obtain ⟨ys, e, t⟩ := of_unz h
  cases e
  exact t
/-- what is known to the object stays known -/
def FrzK (H H' : Hp) : Prop := ∀ b o u, H b = some (.frz o u) → H' b = some (.frz o u)
theorem FrzK.of {H H' : Hp} (s : Same H H') : FrzK H H' := fun b o u h => s b _ h
theorem FrzK.trans {H H1 H' : Hp} (s : FrzK H H1) (t : FrzK H1 H') : FrzK H H' := fun b o u h => t _ _ _ (s _ _ _ h)
theorem FrzK.sb {H H' : Hp} {p : Addr} (n : ∀ o u, H p ≠ some (.frz o u)) (s : SB p H H') : FrzK H H' := fun b o u h => s b _ (fun z => n o u (z ▸ h)) h
theorem FrzK.unz {H H' : Hp} (k : FrzK H H') {b : Addr} {xs : List V} (h : CP.unz H b = some (.tup xs)) : CP.unz H' b = some (.tup xs) := by
  obtain ⟨o, e, d⟩ := unz_tup h
  exact unz_of ⟨o, k _ _ _ e, d⟩
/-- a dict that may be written, its entries told -/
def dictP (z : Pw) (d : Addr) (xs : List (List Key × Addr × Value)) : Heap → Prop := fun h => ∃ o es ep, h.get? d = some o ∧ o.ExactDict ∧ o.data = .dict es ep ∧ es.toList = xs.map (entryOfKey (kz z))
structure DX (z : Pw) (H : Hp) (d : Addr) (kvs : List (List Key × V)) : Prop where
  few : kvs.length ≤ sizeLine
  sys : (d == sysModules) = false
  nd : (kvs.map (·.1)).Nodup
  ex : ∃ xs, KT (unz H) kvs xs ∧ H d = some (.ext (dictP z d xs))
/-- a dict whose object is known -/
structure DO (z : Pw) (o : Obj) (H : Hp) (d : Addr) (kvs : List (List Key × V)) : Prop where
  few : kvs.length ≤ sizeLine
  sys : (d == sysModules) = false
  nd : (kvs.map (·.1)).Nodup
  ex : ∃ xs φ es ep, KT (unz H) kvs xs ∧ H d = some (.frz o (.ext φ)) ∧ o.ExactDict ∧ o.data = .dict es ep ∧ es.toList = xs.map (entryOfKey (kz z))
def DZ (z : Pw) (H : Hp) (d : Addr) (kvs : List (List Key × V)) : Prop := ∃ o, DO z o H d kvs
theorem DO.keep {z : Pw} {o : Obj} {H H' : Hp} {d : Addr} {kvs : List (List Key × V)} (h : DO z o H d kvs) (k : FrzK H H') : DO z o H' d kvs := by
  obtain ⟨xs, u, es, ep, a, b, r⟩ := h.ex
  exact ⟨h.few, h.sys, h.nd, xs, u, es, ep, a.keeps fun _ _ e => k.unz e, k _ _ _ b, r⟩
theorem DZ.keep {z : Pw} {H H' : Hp} {d : Addr} {kvs : List (List Key × V)} (h : DZ z H d kvs) (k : FrzK H H') : DZ z H' d kvs := let ⟨o, h⟩ := h; ⟨o, h.keep k⟩
theorem DZ.mono {z : Pw} {H H' : Hp} {d : Addr} {kvs : List (List Key × V)} (h : DZ z H d kvs) (s : Same H H') : DZ z H' d kvs := h.keep (.of s)
theorem DZ.few {z : Pw} {H : Hp} {d : Addr} {kvs : List (List Key × V)} (h : DZ z H d kvs) : kvs.length ≤ sizeLine := let ⟨_, h⟩ := h; h.few
theorem DZ.sys {z : Pw} {H : Hp} {d : Addr} {kvs : List (List Key × V)} (h : DZ z H d kvs) : (d == sysModules) = false := let ⟨_, h⟩ := h; h.sys
theorem DZ.nd {z : Pw} {H : Hp} {d : Addr} {kvs : List (List Key × V)} (h : DZ z H d kvs) : (kvs.map (·.1)).Nodup := let ⟨_, h⟩ := h; h.nd
/-- a flat dict is locked -/
theorem DO.lk {z : Pw} {o : Obj} {H H' : Hp} {d a : Addr} {kvs : List (List Key × V)} {kk : List (Key × V)} (h : DO z o H d kvs) (ha : H a = some (.dK kk)) (k : ∀ b u, b ≠ a → H b = some u → H' b = some u) : DO z o H' d kvs :=
  h.keep fun b o u e => k b _ (fun z => by rw [z, ha] at e; cases e) e
theorem DX.keep {z : Pw} {H H' : Hp} {d : Addr} {kvs : List (List Key × V)} (h : DX z H d kvs) (k : FrzK H H') (e : H' d = H d) : DX z H' d kvs := by
  obtain ⟨xs, a, b⟩ := h.ex
  exact ⟨h.few, h.sys, h.nd, xs, a.keeps fun _ _ e => k.unz e, e.trans b⟩
theorem DX.mono {z : Pw} {H H' : Hp} {d : Addr} {kvs : List (List Key × V)} (h : DX z H d kvs) (s : Same H H') : DX z H' d kvs := by
  obtain ⟨xs, a, b⟩ := h.ex
  exact h.keep (.of s) ((s _ _ b).trans b.symm)
theorem DX.sb {z : Pw} {H H' : Hp} {d p : Addr} {kvs : List (List Key × V)} (h : DX z H d kvs) (n : ∀ o u, H p ≠ some (.frz o u)) (ne : d ≠ p) (s : SB p H H') : DX z H' d kvs := by
  obtain ⟨xs, a, b⟩ := h.ex
  exact h.keep (.sb n s) ((s _ _ ne b).trans b.symm)
theorem DX.at_ {z : Pw} {H : Hp} {d : Addr} {kvs : List (List Key × V)} (h : DX z H d kvs) : ∃ φ, H d = some (.ext φ) := let ⟨_, _, b⟩ := h.ex; ⟨_, b⟩
theorem DX.nf {z : Pw} {H : Hp} {d : Addr} {kvs : List (List Key × V)} (h : DX z H d kvs) : ∀ o u, H d ≠ some (.frz o u) := fun o u e => by
  obtain ⟨φ, b⟩ := h.at_
  rw [b] at e
  cases e
theorem DZ.at_ {z : Pw} {H : Hp} {d : Addr} {kvs : List (List Key × V)} (h : DZ z H d kvs) : ∃ o u, H d = some (.frz o u) := let ⟨o, h⟩ := h; let ⟨_, _, _, _, _, b, _⟩ := h.ex; ⟨o, _, b⟩
section
variable {P : Program} {w : World} {H : Hp} {h : Heap} {d : Addr} {kvs : List (List Key × V)}
theorem ext_dict {z : Pw} {xs : List (List Key × Addr × Value)} (g : dictP z d xs h) : ObjOk P w H h d (.ext (dictP z d xs)) := by
  refine ⟨g, ?_, fun h1 h2 g1 k => ?_⟩
  · obtain ⟨o, _, _, e, _⟩ := g
    exact ⟨o, e⟩
  · obtain ⟨o, es, ep, e, r⟩ := g1
    exact ⟨o, es, ep, k _ e, r⟩
theorem key_z {ks : List Key} {q : Addr} (ok : HOk P w H h) (e : TupZ H q (ks.map kV)) : (tupleKind (mixKind P w)).is h ks q := by
  obtain ⟨_, its, r, o, h1, h2, n, h3⟩ := (show ObjOk P w H h q (.tup (ks.map kV)) from e.rd.ok ok)
  exact ⟨o, its.toArray, n, h1, h2, h3, by simpa using items_are r⟩
theorem kt_keys : ∀ {l : List (List Key × V)} {m : List (List Key × Addr × Value)}, KT (unz H) l m → l.map (·.1) = m.map (·.1) := by
  intro l m q
  induction q with
  | nil => rfl
  | cons hq t ih => rw [List.map_cons, List.map_cons, ih, hq.1]
theorem kt_is (ok : HOk P w H h) : ∀ {l : List (List Key × V)} {m : List (List Key × Addr × Value)}, KT (unz H) l m → ∀ x ∈ m, (tupleKind (mixKind P w)).is h x.1 x.2.1 := by
  intro l m q
  induction q with
  | nil => intro x hx; exact nomatch hx
  | @cons p q ps qs hq t ih =>
    intro x hx
    rcases List.mem_cons.mp hx with e | hx
    · subst e
      rw [← hq.1]
      exact key_z ok (unz_tup hq.2.1)
    · exact ih x hx
theorem dx_of (ok : HOk P w H h) (e : DX (P, w) H d kvs) : ∃ xs, KT (unz H) kvs xs ∧ h.DictOfH (tupleKind (mixKind P w)) d xs := by
  obtain ⟨xs, kt, at_⟩ := e.ex
  obtain ⟨⟨o, es, ep, g1, g2, g3, g4⟩, _⟩ := (show ObjOk P w H h d (.ext (dictP (P, w) d xs)) from ok d _ at_)
  exact ⟨xs, kt, o, es, ep, g1, g2, g3, g4, kt_is ok kt, kt_keys kt ▸ e.nd⟩
theorem dz_of (ok : HOk P w H h) (e : DZ (P, w) H d kvs) : ∃ xs, KT (unz H) kvs xs ∧ h.DictOfH (tupleKind (mixKind P w)) d xs := by
  obtain ⟨o, e⟩ := e
  obtain ⟨xs, u, es, ep, kt, at_, g2, g3, g4⟩ := e.ex
  obtain ⟨g1, _⟩ := (show ObjOk P w H h d (.frz o (.ext u)) from ok d _ at_)
  exact ⟨xs, kt, o, es, ep, g1, g2, g3, g4, kt_is ok kt, kt_keys kt ▸ e.nd⟩
theorem dr_no {s : Shared} {xs : List (List Key × Addr × Value)} (g : s.heap.DictOfH (tupleKind (mixKind P w)) d xs) : ∀ b, Value.ref d = .ref b → ∃ ob, s.heap.get? b = some ob ∧ ob.dict = none := by
  rintro b e
  cases e
  obtain ⟨ob, _, _, e, c, _⟩ := g
  exact ⟨ob, e, c.2.1⟩
end
/-- a dict that may be written; the empty one is of any kind -/
def DE (z : Pw) (H : Hp) (d : Addr) (kvs : List (List Key × V)) : Prop := DX z H d kvs ∨ (kvs = [] ∧ H d = some (.dK []))
theorem DE.nf {z : Pw} {H : Hp} {d : Addr} {kvs : List (List Key × V)} (h : DE z H d kvs) : ∀ o u, H d ≠ some (.frz o u) := fun o u e => by
  rcases h with h | ⟨_, h⟩
  · exact h.nf o u e
  · rw [h] at e
    cases e
theorem DE.mono {z : Pw} {H H' : Hp} {d : Addr} {kvs : List (List Key × V)} (h : DE z H d kvs) (s : Same H H') : DE z H' d kvs := h.elim (fun h => .inl (h.mono s)) fun ⟨e, h⟩ => .inr ⟨e, s _ _ h⟩
theorem DE.sb {z : Pw} {H H' : Hp} {d p : Addr} {kvs : List (List Key × V)} (h : DE z H d kvs) (n : ∀ o u, H p ≠ some (.frz o u)) (ne : d ≠ p) (s : SB p H H') : DE z H' d kvs := h.elim (fun h => .inl (h.sb n ne s)) fun ⟨e, h⟩ => .inr ⟨e, s _ _ ne h⟩
theorem DE.len {z : Pw} {H : Hp} {d : Addr} {kvs : List (List Key × V)} (h : DE z H d kvs) : kvs.length ≤ sizeLine := h.elim (·.few) fun e => by rw [e.1]; exact Nat.zero_le _
theorem DE.nd {z : Pw} {H : Hp} {d : Addr} {kvs : List (List Key × V)} (h : DE z H d kvs) : (kvs.map (·.1)).Nodup := h.elim (·.nd) fun e => by rw [e.1]; exact List.nodup_nil
theorem DE.new {z : Pw} {H : Hp} {d : Addr} (h : H d = some (.dK [])) : DE z H d [] := .inr ⟨rfl, h⟩
section
variable {P : Program} {w : World} {H : Hp} {h : Heap} {d : Addr} {kvs : List (List Key × V)}
/-- what is known of such a dict -/
theorem de_of (ok : HOk P w H h) (e : DE (P, w) H d kvs) : (d == sysModules) = false ∧ Mut (H d) ∧ ∃ xs, KT (unz H) kvs xs ∧ h.DictOfH (tupleKind (mixKind P w)) d xs := by
  rcases e with e | ⟨rfl, e⟩
  · obtain ⟨φ, at_⟩ := e.at_
    exact ⟨e.sys, by rw [at_]; trivial, dx_of ok e⟩
  · obtain ⟨_, hd, vs, rel, o, es, ep, g1, g2, g3, g4, g5, g6⟩ := dk_of ok e
    cases rel
    have ee : es.toList = [] := by
      generalize es.toList = l at g5
      cases g5
      rfl
    exact ⟨hd, by rw [e]; trivial, [], .nil, o, es, ep, g1, g2, g3, ee, fun x hx => (by cases hx), List.nodup_nil⟩
end
/-- a dict that may be read -/
def DR (z : Pw) (H : Hp) (d : Addr) (kvs : List (List Key × V)) : Prop := DE z H d kvs ∨ DZ z H d kvs
theorem dr_of {P : Program} {w : World} {H : Hp} {h : Heap} {d : Addr} {kvs : List (List Key × V)} (ok : HOk P w H h) (e : DR (P, w) H d kvs) : (d == sysModules) = false ∧ ∃ xs, KT (unz H) kvs xs ∧ h.DictOfH (tupleKind (mixKind P w)) d xs := by
  rcases e with e | e
  · obtain ⟨a, _, b⟩ := de_of ok e
    exact ⟨a, b⟩
  · exact ⟨e.sys, dz_of ok e⟩
/-- a key's tuple, of either way -/
def KeyAt (H : Hp) (b : Addr) (k : List Key) : Prop := H b = some (.tup (k.map kV)) ∨ TupZ H b (k.map kV)
theorem KeyAt.is {P : Program} {w : World} {H : Hp} {h : Heap} {b : Addr} {k : List Key} (e : KeyAt H b k) (ok : HOk P w H h) : (tupleKind (mixKind P w)).is h k b := e.elim (key_of ok) (key_z ok)
/-! ### d.get(k, x) -/
def tDGetZ (z : Pw) (td ty tx : TE) : TE := fun σ H Q => td σ H fun x H1 => ∃ a kvs, x = .ref a ∧ DR z H1 a kvs ∧ ty σ H1 fun y H2 => tx σ H2 fun v H3 => DR z H3 a kvs ∧ ∃ k b, y = .ref b ∧ KeyAt H3 b k ∧ Q ((valV kvs k).getD v) H3
/-! ### a tuple written, known to bear no dict -/
def tTupZ (t : TA) : TE := fun σ H Q => t σ H fun xs H1 => xs.length ≤ sizeLine ∧ ∀ p H', H1 p = none → Same H1 H' → TupZ H' p xs → Q (.ref p) H'
section
variable {X : Cx}
theorem tup_laid {h : Heap} {p : Addr} {H : Hp} {us : List Value} {xs : List V} {P : Program} {w : World} {o : Obj} (z : xs.length ≤ sizeLine) (r : Vals xs us) (e : h.get? p = some o) (c : o.cls = .type "tuple") {n : Nat} (hd : o.data = .seq us.toArray n) : ObjOk P w H h p (.frz o (.tup xs)) :=
  ⟨e, z, us, r, ⟨o, e, c, n, hd⟩⟩
theorem pe_tupZ {es : List Expr} {t : TA} {x1 : Nat} {pos : Pos} (h : PA X es t) : PE X (.Tuple es x1 pos) (tTupZ t) := by
  refine ⟨fun pins s σ H Q I hq => ?_⟩
  refine wpAny_Tuple_spliced (thn (h.run pos pins s σ H _ I hq) fun us s1 ⟨xs, H1, I1, r, z, q⟩ => ⟨by rw [← r.length]; exact z, ?_⟩)
  have hf : H1 s1.heap.objs.size = none := I1.hok.fresh (Nat.le_refl _)
  refine ⟨.ref s1.heap.objs.size, upd H1 s1.heap.objs.size (.frz _ (.tup xs)), I1.laid (t' := s1.toks) (fun b u e => Heap.get?_push_of_some _ e) (Nat.le_refl _) (tup_laid z r (Heap.get?_push_size _ rfl) rfl rfl), rfl, q _ _ hf (same_new hf) ⟨_, upd_same, rfl⟩⟩
theorem pe_dgetZ {o e f : Expr} {apos cpos : Pos} {td ty tx : TE} (hu : X.A.units + 1 < cLine) (ho : PE X o td) (he : PE X e ty) (hf : PE X f tx) (m : M2 X o "get" apos e f cpos) : PE X (.Call (.Attribute o "get" apos) [e, f] [] cpos) (tDGetZ (X.prog, X.w) td ty tx) := by
  refine ⟨fun pins s σ H Q I h => ?_⟩
  refine wpAny_Call_method m.base m.few m.line PySem.F.plainAttrs_dict PySem.F.slot_dict_get PySem.F.type_dict_get (thn (ho.run pins s σ H _ I h) fun u s1 ⟨x, H1, I1, rx, a, kvs, ex, d, q1⟩ => ?_)
  subst ex
  obtain rfl : u = Value.ref a := rx
  obtain ⟨_, xs0, _, dd0⟩ := dr_of I1.hok d
  refine ⟨dd0.typeIs, dr_no dd0, ?_⟩
  rw [m.trees]
  refine Calls.callWith_builtin rfl (Calls.evalArgs_plain (Calls.spliced_cons (thn (he.run pins s1 σ H1 _ I1 q1) fun iv s2 ⟨y, H2, I2, ry, q2⟩ =>
    Calls.spliced_cons (thn (hf.run pins s2 σ H2 _ I2 q2) fun fv s3 ⟨z, H3, I3, rz, g, k, b, ey, kb, q3⟩ => Calls.spliced_nil ?_))))
  subst ey
  cases (show iv = Value.ref b from ry)
  obtain ⟨sys, xs, rel, dd⟩ := dr_of I3.hok g
  exact call_meetsIn PySem.F.slot_dict_get dd.typeIs PySem.F.entry_dict_get (PySem.F.args_dict_get_3 _ _ _) (meetsH_dict_get_default (tupleKind (mixKind X.prog X.w)) a b sys fv) ⟨tupleKind_room_in1 hu, k, xs, kb.is I3.hok, dd, ⟨_, H3, I3.tok _, (rel.val k).getD rz, q3⟩⟩
/-- a[y] = v and the like: the dict changes, all else is kept -/
theorem put_z {pins : List (Addr × Obj)} {σ : L2.St} {H : Hp} {s : Shared} {a b : Addr} {v : V} {r : Value} {h' : Heap} {t' : Nat} {kvs : List (List Key × V)} {k : List Key} {xs : List (List Key × Addr × Value)} (I : Inv X pins σ H s) (sys : (a == sysModules) = false) (mu : Mut (H a))
    (kt : KT (unz H) kvs xs) (few : kvs.length < sizeLine) (eb : TupZ H b (k.map kV)) (rv : RelV v r) (dd : h'.DictOfH (tupleKind (mixKind X.prog X.w)) a (storedH xs k b r)) (sb : Heap.SameBut a s.heap h') :
    ∃ H', SB a H H' ∧ DX (X.prog, X.w) H' a (putK kvs k v) ∧ Inv X pins σ H' { s with heap := h', toks := t' } := by
  obtain ⟨q, es, ep, hq, g2, g3, g4, g4', g5⟩ := dd
  have kt2 := kt.put k (unz_of eb) rv
  have fk : FrzK H (upd H a (.ext (dictP (X.prog, X.w) a (storedH xs k b r)))) := fun c o u e => by
    rw [upd_ne fun z => by rw [z] at e; rw [e] at mu; exact mu]
    exact e
  refine ⟨upd H a (.ext (dictP (X.prog, X.w) a (storedH xs k b r))), sb_upd, ⟨by have := length_putK kvs k v; omega, sys, ?_, _, kt2.keeps fun _ _ e => fk.unz e, upd_same⟩, d_write I mu sb ⟨q, hq⟩ (ext_dict ⟨q, es, ep, hq, g2, g3, g4⟩)⟩
  have keys : ∀ {l : List (List Key × V)} {m : List (List Key × Addr × Value)}, KT (unz H) l m → l.map (·.1) = m.map (·.1) := by
    intro l m q
    induction q with
    | nil => rfl
    | cons hq t ih => rw [List.map_cons, List.map_cons, ih, hq.1]
  rw [keys kt2]
  exact g5
/-- a dict is told to the object from now on -/
theorem frz_z {pins : List (Addr × Obj)} {σ : L2.St} {H : Hp} {s : Shared} {a : Addr} {kvs : List (List Key × V)} (I : Inv X pins σ H s) (h : DE (X.prog, X.w) H a kvs) :
    ∃ H', SB a H H' ∧ DZ (X.prog, X.w) H' a kvs ∧ (∀ b, b ≠ a → H' b = H b) ∧ Inv X pins σ H' s := by
  obtain ⟨sys, mu, xs, kt, o, es, ep, g1, g2, g3, g4, _, _⟩ := de_of I.hok h
  have J0 : Inv X pins σ (upd H a (.ext (dictP (X.prog, X.w) a xs))) s := d_write I mu ⟨rfl, fun _ _ => rfl⟩ ⟨o, g1⟩ (ext_dict ⟨o, es, ep, g1, g2, g3, g4⟩)
  obtain ⟨od, J⟩ := J0.lock upd_same (by trivial)
  obtain ⟨g0, _⟩ := (show ObjOk X.prog X.w _ s.heap a (.frz od _) from J.hok a _ upd_same)
  rw [g1] at g0
  cases g0
  have fk : FrzK H (upd (upd H a (.ext (dictP (X.prog, X.w) a xs))) a (.frz o (.ext (dictP (X.prog, X.w) a xs)))) := fun c o2 u2 e2 => by
    have ne : c ≠ a := fun z => by rw [z] at e2; rw [e2] at mu; exact mu
    rw [upd_ne ne, upd_ne ne]
    exact e2
  exact ⟨_, fun b u nb e => by rw [upd_ne nb, upd_ne nb]; exact e, ⟨o, h.len, sys, h.nd, xs, _, es, ep, kt.keeps fun _ _ e => fk.unz e, upd_same, g2, g3, g4⟩, fun b nb => by rw [upd_ne nb, upd_ne nb], J⟩
end
/-- d[k] = v -/
def sDPutZ (z : Pw) (td ty tv : TE) : TS := fun D σ H => tv σ H fun v H1 => td σ H1 fun x H2 => ty σ H2 fun y H3 => ∃ a kvs k b, x = .ref a ∧ y = .ref b ∧ DE z H3 a kvs ∧ TupZ H3 b (k.map kV) ∧ kvs.length < sizeLine ∧ ∀ H', SB a H3 H' → DX z H' a (putK kvs k v) → D.nx σ H'
/-- the dict at d is told to the object, then t runs -/
def tFrzE (z : Pw) (t : TE) : TE := fun σ H Q => ∃ d kvs, DE z H d kvs ∧ ∀ H', SB d H H' → DZ z H' d kvs → t σ H' Q
/-- what t gives is told to the object -/
def tFrzV (z : Pw) (t : TE) : TE := fun σ H Q => t σ H fun v H1 => ∃ d kvs, v = .ref d ∧ DE z H1 d kvs ∧ ∀ H', SB d H1 H' → DZ z H' d kvs → Q v H'
section
variable {X : Cx}
theorem ps_dputZ {o i value : Expr} {pos pos' : Pos} {td ty tv : TE} (hu : X.A.units + 1 < cLine) (ho : PE X o td) (hi : PE X i ty) (hv : PE X value tv) (hs : swapsWith value (some (.Subscript o i pos')) pos.line X.env = pure false) :
    PS X (.Assign [.Subscript o i pos'] value pos) (sDPutZ (X.prog, X.w) td ty tv) := by
  refine ⟨fun pins s σ H D I h => ?_⟩
  refine wpAny_Assign_Subscript (thn (hv.run pins s σ H _ I h) fun r s1 ⟨v, H1, I1, rv, q1⟩ => thn (ho.run pins s1 σ H1 _ I1 q1) fun u s2 ⟨x, H2, I2, rx, q2⟩ => thn (hi.run pins s2 σ H2 _ I2 q2) fun iv s3 ⟨y, H3, I3, ry, a, kvs, k, b, ex, ey, e, eb, few, q3⟩ => ?_) hs
  subst ex ey
  obtain rfl : u = Value.ref a := rx
  obtain rfl : iv = Value.ref b := ry
  obtain ⟨sys, mu, xs, kt, dd⟩ := de_of I3.hok e
  have hz : xs.length ≤ sizeLine := by rw [← Paired.length kt]; omega
  refine wpAny_setItem_heap (hsz := hz) (tupleKind_room_in1 hu) (key_z I3.hok eb) dd fun h' dd' hs => ?_
  obtain ⟨H', sb, dx, J⟩ := put_z (t' := _) I3 sys mu kt few eb rv dd' hs
  exact ⟨σ, H', J, q3 H' sb dx⟩
theorem pe_frzZ {e : Expr} {t : TE} (h : PE X e t) : PE X e (tFrzE (X.prog, X.w) t) := by
  refine ⟨fun pins s σ H Q I ⟨d, kvs, hd, hw⟩ => ?_⟩
  obtain ⟨H', sb, dz, _, J⟩ := frz_z I hd
  exact h.run pins s σ H' Q J (hw H' sb dz)
theorem pe_frzV {e : Expr} {t : TE} (h : PE X e t) : PE X e (tFrzV (X.prog, X.w) t) := by
  refine ⟨fun pins s σ H Q I hw => ?_⟩
  refine thn (h.run pins s σ H _ I hw) fun u s1 ⟨v, H1, I1, r, d, kvs, ev, hd, q⟩ => ?_
  subst ev
  obtain ⟨H', sb, dz, _, J⟩ := frz_z I1 hd
  exact ⟨.ref d, H', J, r, q H' sb dz⟩
end
end CP

set_option Elab.async false
set_option linter.all false
set_option maxRecDepth 100000
set_option maxHeartbeats 4000000
set_option autoImplicit false
/-! dicts that are known to the object: walked by keys, values, pairs -/
namespace CP
open L2 PySem PyProof.Rows
section
variable {X : Cx} {pins : List (Addr × Obj)} {σ : L2.St} {H : Hp} {s : Shared} {d : Addr} {o : Obj} {z : Pw} {kvs : List (List Key × V)}
/-- the entries of such a dict -/
theorem dz_ents (I : Inv X pins σ H s) (h : DO z o H d kvs) : ∃ (es : Array DictEntry) (ep : Nat), o.data = .dict es ep ∧ (d == sysModules) = false ∧ s.heap.DictRaw d es ep ∧ es.size = kvs.length ∧
    ∀ (i : Nat) (k : List Key) (v : V), kvs[i]? = some (k, v) → ∃ (hi : i < es.size) (q : Addr), es[i].key = .ref q ∧ TupZ H q (k.map kV) ∧ RelV v es[i].val := by
  obtain ⟨xs, u, es, ep, prs, at_, ex, dat, ent⟩ := h.ex
  obtain ⟨at2, _⟩ := (show ObjOk X.prog X.w H s.heap d (.frz o (.ext u)) from I.hok d _ at_)
  have lx := size_of_entries ent
  have lk := Paired.length prs
  refine ⟨es, ep, dat, h.sys, ⟨o, at2, ex, dat⟩, lx.trans lk.symm, fun i k v hk => ?_⟩
  obtain ⟨⟨k2, q, u⟩, hx, e1, e2, e3⟩ := paired_get prs hk
  have g := entry_at ent i
  rw [hx] at g
  obtain ⟨hi, ge⟩ := Array.getElem?_eq_some_iff.mp g
  exact ⟨hi, q, by rw [ge]; rfl, unz_tup e2, by rw [ge]; exact e3⟩
end
/-- its keys -/
def Itkz (z : Pw) (d : Addr) (o : Obj) (kvs : List (List Key × V)) : It where
  go i H := DO z o H d kvs ∧ i < kvs.length
  yld i H x H' := H' = H ∧ ∃ (k : List Key) (v : V) (q : Addr), kvs[i]? = some (k, v) ∧ x = .ref q ∧ TupZ H q (k.map kV)
  stop i H := DO z o H d kvs ∧ kvs.length ≤ i
/-- the values of the locked dict at d -/
def Itvz (z : Pw) (d : Addr) (o : Obj) (kvs : List (List Key × V)) : It where
  go i H := DO z o H d kvs ∧ i < kvs.length
  yld i H x H' := H' = H ∧ ∃ k, kvs[i]? = some (k, x)
  stop i H := DO z o H d kvs ∧ kvs.length ≤ i
/-- its pairs, each a new tuple of the key's own tuple and the value -/
def Itpz (z : Pw) (d : Addr) (o : Obj) (kvs : List (List Key × V)) : It where
  go i H := DO z o H d kvs ∧ i < kvs.length
  yld i H x H' := ∃ t k v q, kvs[i]? = some (k, v) ∧ x = .ref t ∧ H t = none ∧ TupZ H q (k.map kV) ∧ H' = upd H t (.tup [.ref q, v])
  stop i H := DO z o H d kvs ∧ kvs.length ≤ i
section
variable {P : Program} {w : World} {K : PySem.W.Frag} {tg : Expr} {d it : Addr} {o : Obj} {es : Array DictEntry} {ep : Nat} {kvs : List (List Key × V)} {z : Pw}
theorem turn_kz (hod : o.data = .dict es ep) : L2.Turn P w K tg (Itkz z d o kvs) [it] it (fun i h => h.IsKeyIter it d i kvs.length ep) where
  mem := List.mem_singleton.mpr rfl
  obj := fun i h st b hb => by
    cases List.mem_singleton.mp hb
    obtain ⟨u, hu, _, hd⟩ := st
    exact ⟨u, hu, fun v z => by rw [hd] at z; cases z⟩
  keep := fun i h h' st k => by
    obtain ⟨u, hu, r⟩ := st
    exact ⟨u, k it (List.mem_singleton.mpr rfl) u hu, r⟩
  item := by
    intro Y eP ew eK calm i pins s σ H E I fr st go
    cases eP; cases ew; cases eK
    obtain ⟨hd, lt⟩ := go
    obtain ⟨g0, g1, g2, g3, g4, g5⟩ := fr it (List.mem_singleton.mpr rfl)
    obtain ⟨es2, ep2, dat, sys, raw, sz, ent⟩ := dz_ents I hd
    cases hod.symm.trans dat
    have hk : kvs[i]? = some (kvs[i].1, kvs[i].2) := List.getElem?_eq_getElem lt
    obtain ⟨hi, q, e1, e2, e3⟩ := ent i _ _ hk
    obtain ⟨oo, h1, h2, h3⟩ := id raw
    refine next_key_item st h1 h3 sz (Array.getElem?_eq_getElem hi) fun h2 st2 sb => ?_
    have J : Inv Y pins σ H { s with heap := h2 } := I.turned (t' := s.toks) (fun b u ne e => (sb.2 b ne).trans e) g0 g1 g3 g4 g5
    obtain ⟨u, hu, hc, hdt⟩ := id st2
    exact ⟨_, rfl, go_of (s := { s with heap := h2 }) hu hc hdt (by decide) ⟨.ref q, H, J, e1, ⟨rfl, _, _, q, hk, rfl, e2⟩, st2, fun b hb => (fr b hb).1⟩⟩
  done := by
    intro Y eP ew eK calm i pins s σ H E I fr st go
    cases eP; cases ew; cases eK
    obtain ⟨hd, ge⟩ := go
    obtain ⟨g0, g1, g2, g3, g4, g5⟩ := fr it (List.mem_singleton.mpr rfl)
    obtain ⟨es2, ep2, dat, sys, raw, sz, _⟩ := dz_ents I hd
    cases hod.symm.trans dat
    obtain ⟨oo, h1, h2, h3⟩ := id raw
    exact next_key_end (I.ok.hd calm) st h1 h3 sz ge fun h2 eb => ⟨rfl, I.turned (t' := s.toks) (fun b u ne e => eb b u ne e) g0 g1 g3 g4 g5⟩
  self := fun A i s Q E st h => by
    refine wpAny_pyIter_slot st.typeIs F.slot_dict_keyiterator_iter (wpAny_call_entry F.slot_dict_keyiterator_iter st.typeIs F.entry_dict_keyiterator_iter ?_ (F.args_dict_keyiterator_iter_1 _))
    show wpAny _ _ (ret (.ref it)) _ _ s
    exact wpAny_pure ⟨_, rfl, "dict_keyiterator", _, st.typeIs, F.slot_dict_keyiterator_next.lookup, h⟩
theorem turn_vz (hod : o.data = .dict es ep) : L2.Turn P w K tg (Itvz z d o kvs) [it] it (fun i h => h.IsValIter it d i kvs.length ep) where
  mem := List.mem_singleton.mpr rfl
  obj := fun i h st b hb => by
    cases List.mem_singleton.mp hb
    obtain ⟨u, hu, _, hd⟩ := st
    exact ⟨u, hu, fun v z => by rw [hd] at z; cases z⟩
  keep := fun i h h' st k => by
    obtain ⟨u, hu, r⟩ := st
    exact ⟨u, k it (List.mem_singleton.mpr rfl) u hu, r⟩
  item := by
    intro Y eP ew eK calm i pins s σ H E I fr st go
    cases eP; cases ew; cases eK
    obtain ⟨hd, lt⟩ := go
    obtain ⟨g0, g1, g2, g3, g4, g5⟩ := fr it (List.mem_singleton.mpr rfl)
    obtain ⟨es2, ep2, dat, sys, raw, sz, ent⟩ := dz_ents I hd
    cases hod.symm.trans dat
    have hk : kvs[i]? = some (kvs[i].1, kvs[i].2) := List.getElem?_eq_getElem lt
    obtain ⟨hi, q, e1, e2, e3⟩ := ent i _ _ hk
    rw [← sz] at st
    refine wpAny_pyNext_values_item_raw st raw hi fun h2 st2 sb => ?_
    have J : Inv Y pins σ H { s with heap := h2 } := I.turned (t' := s.toks) (fun b u ne e => (sb.2 b ne).trans e) g0 g1 g3 g4 g5
    obtain ⟨u, hu, hc, hdt⟩ := id st2
    rw [sz] at st2
    exact ⟨_, rfl, go_of (s := { s with heap := h2 }) hu hc hdt (by decide) ⟨_, H, J, e3, ⟨rfl, _, hk⟩, st2, fun b hb => (fr b hb).1⟩⟩
  done := by
    intro Y eP ew eK calm i pins s σ H E I fr st go
    cases eP; cases ew; cases eK
    obtain ⟨hd, ge⟩ := go
    obtain ⟨g0, g1, g2, g3, g4, g5⟩ := fr it (List.mem_singleton.mpr rfl)
    obtain ⟨es2, ep2, dat, sys, raw, sz, _⟩ := dz_ents I hd
    cases hod.symm.trans dat
    rw [← sz] at st
    exact wpAny_pyNext_values_end_raw (I.ok.hd calm) st raw (by omega) fun h2 eb => ⟨rfl, I.turned (t' := s.toks) (fun b u ne e => eb b u ne e) g0 g1 g3 g4 g5⟩
  self := fun A i s Q E st h => wpAny_pyIter_valiter st h
theorem turn_pz {elts : List Expr} {kk : Nat} {tpos : Pos} (hod : o.data = .dict es ep) : L2.Turn P w K (.Tuple elts kk tpos) (Itpz z d o kvs) [it] it (fun i h => ∃ ok ov, IsItemIter h it d i kvs.length ep ok ov) where
  mem := List.mem_singleton.mpr rfl
  obj := fun i h st b hb => by
    cases List.mem_singleton.mp hb
    obtain ⟨ok, ov, e⟩ := st
    exact ⟨_, e, fun v z => nomatch z⟩
  keep := fun i h h' st k => by
    obtain ⟨ok, ov, e⟩ := st
    exact ⟨ok, ov, k it (List.mem_singleton.mpr rfl) _ e⟩
  item := by
    intro Y eP ew eK calm i pins s σ H E I fr st go
    cases eP; cases ew; cases eK
    obtain ⟨hd, lt⟩ := go
    obtain ⟨es2, ep2, dat, sys, raw, sz, ent⟩ := dz_ents I hd
    cases hod.symm.trans dat
    have hk : kvs[i]? = some (kvs[i].1, kvs[i].2) := List.getElem?_eq_getElem lt
    obtain ⟨hi, q, e1, e2, e3⟩ := ent i _ _ hk
    obtain ⟨ok, ov, he⟩ := st
    rw [← sz] at he
    have itl : it < s.heap.objs.size := Heap.lt_size he
    refine wpAny_pyNext_items_item_raw he raw hi fun h2 ho hT hz hkp => ?_
    refine ⟨_, rfl, wpAny_letOwnedTupleGo_items (s := { s with heap := h2 }) ho fun h3 he3 sb => ?_⟩
    have hT3 := (sb.2 _ (Nat.ne_of_gt itl)).trans hT
    rw [e1] at hT3
    have new : ObjOk Y.prog Y.w (upd H s.heap.objs.size (.tup [.ref q, kvs[i].2])) h3 s.heap.objs.size (.tup [.ref q, kvs[i].2]) :=
      ⟨(by decide : 2 ≤ sizeLine), [.ref q, es[i].val], .cons (a := .ref q) (b := .ref q) rfl (.cons e3 .nil), ⟨_, hT3, rfl, 0, rfl⟩⟩
    have J : Inv Y pins σ (upd H s.heap.objs.size (.tup [.ref q, kvs[i].2])) { s with heap := h3 } :=
      I.turnedNew (t' := s.toks) (ch := [it]) (fun b u ne e => (sb.2 b fun z => ne (List.mem_singleton.mpr z)).trans (hkp b u (fun z => ne (List.mem_singleton.mpr z)) e)) fr (Nat.le_refl _) new
    refine ⟨.ref s.heap.objs.size, _, J, rfl, ⟨_, kvs[i].1, kvs[i].2, q, hk, rfl, I.hok.fresh (Nat.le_refl _), e2, rfl⟩, ⟨es[i].key, es[i].val, ?_⟩, fun b hb => ?_⟩
    · rw [← sz]; exact he3
    · cases List.mem_singleton.mp hb
      rw [upd_ne (Nat.ne_of_lt itl)]
      exact (fr _ hb).1
  done := by
    intro Y eP ew eK calm i pins s σ H E I fr st go
    cases eP; cases ew; cases eK
    obtain ⟨hd, ge⟩ := go
    obtain ⟨g0, g1, g2, g3, g4, g5⟩ := fr it (List.mem_singleton.mpr rfl)
    obtain ⟨es2, ep2, dat, sys, raw, sz, _⟩ := dz_ents I hd
    cases hod.symm.trans dat
    obtain ⟨ok, ov, he⟩ := st
    rw [← sz] at he
    exact wpAny_pyNext_items_end_raw (I.ok.hd calm) he raw (by omega) fun h2 eb => ⟨rfl, I.turned (t' := s.toks) (fun b u ne e => eb b u ne e) g0 g1 g3 g4 g5⟩
  self := fun A i s Q E st h => by
    obtain ⟨_, _, e⟩ := st
    exact wpAny_pyIter_itemiter e h
end
/-- what d.values(), d.items() ask -/
def iValsZ (td : TE) : TI := fun σ H R => td σ H fun x H1 => ∃ z d o kvs, x = .ref d ∧ DO z o H1 d kvs ∧ R (Itvz z d o kvs) H1
def iItemsZ (td : TE) : TI := fun σ H R => td σ H fun x H1 => ∃ z d o kvs, x = .ref d ∧ DO z o H1 d kvs ∧ R (Itpz z d o kvs) H1
section
variable {X : Cx} {tg e : Expr} {td : TE} {apos cpos : Pos}
theorem pi_valuesZ (he : PE X e td) (hbase : attributeBase e "values" X.env (eval e X.env) = eval e X.env := by rfl) (line : (apos.endLine == cpos.line) = true := by rfl) : PI X tg (.Call (.Attribute e "values" apos) [] [] cpos) (iValsZ td) := by
  constructor
  intro pins s σ H R I h
  refine wpAny_Call_method (T := "dict") (id := "dict.values") hbase rfl line F.plainAttrs_dict F.slot_dict_values F.type_dict_values (thn (he.run pins s σ H _ I h) fun u s1 z => ?_)
  obtain ⟨x, H1, J, rx, zz, d, o, kvs, ex, hd, q⟩ := z
  subst ex
  cases (show u = Value.ref d from rx)
  obtain ⟨es, ep, dat, sys, raw, sz, _⟩ := dz_ents J hd
  refine ⟨raw.typeIs, raw_noDict raw, ?_⟩
  have J2 : Inv X pins σ H1 { s1 with heap := s1.heap.push { cls := .type "dict_values", data := .fields #[.ref d] } } := J.kept (t' := s1.toks) fun b ob z => Heap.get?_push_of_some _ z
  have raw2 := raw.at (h' := s1.heap.push { cls := .type "dict_values", data := .fields #[.ref d] }) fun o z => Heap.get?_push_of_some _ z
  have fin : wpAny (model X.prog X.w) X.A (pyIter (.ref s1.heap.objs.size)) (PIE X pins σ tg R) X.xe { s1 with heap := s1.heap.push { cls := .type "dict_values", data := .fields #[.ref d] } } := by
    refine wpAny_pyIter_values_raw (d := d) ⟨_, Heap.get?_push_size _ rfl, rfl, rfl⟩ raw2 (pi_one (tk := s1.toks) J2 _ (turn_vz dat) ⟨_, Heap.get?_push_size _ rfl, rfl, ?_⟩ q)
    rw [sz] <;> rfl
  show wpAny _ _ (callWith cpos (.builtin "dict.values") [.ref d] [] []) _ X.xe s1
  exact method_meetsIn F.slot_dict_values F.entry_dict_values rfl (PySem.evalArgs_none ⟨rfl, raw.typeIs, F.args_dict_values_1 _, _, meets_dict_values_raw d sys, ⟨⟨es, ep, raw⟩, fin⟩⟩)
theorem pi_itemsZ {elts : List Expr} {kk : Nat} {tpos : Pos} (he : PE X e td) (hbase : attributeBase e "items" X.env (eval e X.env) = eval e X.env := by rfl) (line : (apos.endLine == cpos.line) = true := by rfl) : PI X (.Tuple elts kk tpos) (.Call (.Attribute e "items" apos) [] [] cpos) (iItemsZ td) := by
  constructor
  intro pins s σ H R I h
  refine wpAny_Call_method (T := "dict") (id := "dict.items") hbase rfl line F.plainAttrs_dict F.slot_dict_items F.type_dict_items (thn (he.run pins s σ H _ I h) fun u s1 z => ?_)
  obtain ⟨x, H1, J, rx, zz, d, o, kvs, ex, hd, q⟩ := z
  subst ex
  cases (show u = Value.ref d from rx)
  obtain ⟨es, ep, dat, sys, raw, sz, _⟩ := dz_ents J hd
  refine ⟨raw.typeIs, raw_noDict raw, ?_⟩
  have J2 : Inv X pins σ H1 { s1 with heap := s1.heap.push { cls := .type "dict_items", data := .fields #[.ref d] } } := J.kept (t' := s1.toks) fun b ob z => Heap.get?_push_of_some _ z
  have raw2 := raw.at (h' := s1.heap.push { cls := .type "dict_items", data := .fields #[.ref d] }) fun o z => Heap.get?_push_of_some _ z
  have fin : wpAny (model X.prog X.w) X.A (pyIter (.ref s1.heap.objs.size)) (PIE X pins σ (.Tuple elts kk tpos) R) X.xe { s1 with heap := s1.heap.push { cls := .type "dict_items", data := .fields #[.ref d] } } := by
    refine wpAny_pyIter_items_raw (d := d) ⟨_, Heap.get?_push_size _ rfl, rfl, rfl⟩ raw2 (pi_one (tk := s1.toks) J2 _ (turn_pz dat) ⟨.none, .none, ?_⟩ q)
    rw [← sz]
    exact Heap.get?_push_size _ rfl
  show wpAny _ _ (callWith cpos (.builtin "dict.items") [.ref d] [] []) _ X.xe s1
  exact method_meetsIn F.slot_dict_items F.entry_dict_items rfl (PySem.evalArgs_none ⟨rfl, raw.typeIs, F.args_dict_items_1 _, _, meets_dict_items_raw d sys, ⟨⟨es, ep, raw⟩, fin⟩⟩)
end
/-- for k in d -/
def iKeysZ (td : TE) : TI := fun σ H R => td σ H fun x H1 => ∃ z d o kvs, x = .ref d ∧ DO z o H1 d kvs ∧ R (Itkz z d o kvs) H1
section
variable {X : Cx} {tg e : Expr} {td : TE}
theorem pi_keysZ (he : PE X e td) : PI X tg e (iKeysZ td) := by
  refine ⟨fun pins s σ H R I h => ?_⟩
  refine thn (he.run pins s σ H _ I h) fun u s1 ⟨x, H1, I1, rx, zz, d, o, kvs, ex, hd, q⟩ => ?_
  subst ex
  obtain rfl : u = Value.ref d := rx
  obtain ⟨es, ep, dat, sys, raw, sz, _⟩ := dz_ents I1 hd
  obtain ⟨oo, h1, h2, h3⟩ := id raw
  refine iter_keys sys h1 h2 h3 (pi_one (tk := s1.toks) I1 _ (turn_kz dat) ⟨_, Heap.get?_push_size _ rfl, rfl, ?_⟩ q)
  rw [sz] <;> rfl
end
end CP

set_option Elab.async false
set_option linter.all false
set_option maxRecDepth 100000
set_option maxHeartbeats 4000000
set_option autoImplicit false
/-! dicts that are known to the object: made by comprehensions and displays, compared; tuple(list); tuple.count -/
namespace CP
open L2 PySem PyProof.Rows
/-- what is put into the dict D behind the key y -/
def PutZ (z : Pw) (H : Hp) (D : Addr) (y v : V) (N : Hp → Prop) : Prop := ∃ kvs k b, y = .ref b ∧ DE z H D kvs ∧ TupZ H b (k.map kV) ∧ kvs.length < sizeLine ∧ ∀ H', SB D H H' → DX z H' D (putK kvs k v) → N H'
/-- {k: v for target in iter if ..}, tuples as keys; the dict is known to the object behind it -/
def tDgZ (z : Pw) (wi : TI) (g : TG) (tt : TT) (tk tv : TE) (vs : List Nat) : TE := fun σ H Q => wi σ H fun J H1 => ∀ D, H1 D = none → ∃ W : Nat → Nat → Hp → Prop, (∃ m, W 0 m (upd H1 D (.dK []))) ∧ ∀ i m H, W i m H →
  (J.stop i H ∧ ∃ kvs, DE z H D kvs ∧ ∀ H', SB D H H' → DZ z H' D kvs → Q (.ref D) H') ∨ (J.go i H ∧ ∃ N : Hp → Prop, (∀ H', N H' → ∃ m', m' < m ∧ W (i + 1) m' H') ∧ ∀ x H', J.yld i H x H' → g x (wipe σ vs) H' fun σ2 H2 => wipe σ2 vs = wipe σ vs ∧ tt σ2 H2 fun b H3 =>
    if b = true then tk σ2 H3 fun y H4 => tv σ2 H4 fun v H5 => PutZ z H5 D y v N else N H3)
section
variable {X : Cx} {pins : List (Addr × Obj)} {σ : L2.St} {H : Hp} {s : Shared} {D : Addr} {y v : V} {u r : Value} {E : Value → Shared → Prop} {Q : Unit → Shared → Prop}
theorem dictSet_z {N : Hp → Prop} (room : X.A.units < cLine) (I : Inv X pins σ H s) (g : PutZ (X.prog, X.w) H D y v N) (ry : RelV y u) (rv : RelV v r) (h : ∀ H' s', Inv X pins σ H' s' → N H' → Q () s') : wpAny (model X.prog X.w) X.A (dictSet D u r) Q E s := by
  obtain ⟨kvs, k, b, rfl, e, eb, few, q⟩ := g
  cases (show u = Value.ref b from ry)
  obtain ⟨sys, mu, xs, kt, dd⟩ := de_of I.hok e
  have few2 : xs.length ≤ sizeLine := by rw [← Paired.length kt]; omega
  refine wpAny_dictSet_heap (hsz := few2) room (key_z I.hok eb) dd fun h2 dd2 sb => ?_
  obtain ⟨H', sb', dx, J⟩ := put_z (t' := _) I sys mu kt few eb rv dd2 sb
  exact h H' _ J (q H' sb' dx)
end
section
variable {X : Cx}
theorem dg_coreZ {pins : List (Addr × Obj)} {s : Shared} {σ : L2.St} {H : Hp} {Q : VK} {kx vx tg iter : Expr} {ifs : List Expr} {scope : Scope} {own : List (Str × Nat)} {pos pos' : Pos} {wi : TI} {g : TG} {tt : TT} {tk tv : TE} {use : Option (Value → Sem Unit)} {Qf : Value → Shared → Prop}
    (room : X.A.units < cLine) (calm : X.calm = true) (nd : X.N.Nodup) (I : Inv X pins σ H s) (it : PI X tg iter wi) (blk : BlkOk X.N X.env.scope scope own)
    (dg : ∀ (s : Shared) (H : Hp) (C : Addr) (cl : List (Str × Addr)) (fp : List Addr), PG (X.blk s H scope (compEnvC scope cl C X.env) fp) tg g) (dt : ∀ (s : Shared) (H : Hp) (C : Addr) (cl : List (Str × Addr)) (fp : List Addr), PTs (X.blk s H scope (compEnvC scope cl C X.env) fp) ifs tt)
    (dk : ∀ (s : Shared) (H : Hp) (C : Addr) (cl : List (Str × Addr)) (fp : List Addr), PE (X.blk s H scope (compEnvC scope cl C X.env) fp) kx tk)
    (dv : ∀ (s : Shared) (H : Hp) (C : Addr) (cl : List (Str × Addr)) (fp : List Addr), PE (X.blk s H scope (compEnvC scope cl C X.env) fp) vx tv) (fold : ∀ x, foldedSetIterable iter X.env x = pure x)
    (h : tDgZ (X.prog, X.w) wi g tt tk tv (own.map (·.2)) σ H Q)
    (back : ∀ D C s' m H', Inv X pins σ H' s' → Q (.ref D) H' → s'.heap.Ns C m → FpOk X pins H' C → compPost (model X.prog X.w) X.A X.xe use Qf (.ref D) C (.ok .next) s') :
    wpAny (model X.prog X.w) X.A (comprehension (.DictComp kx vx [⟨tg, iter, ifs, 0⟩] scope pos) scope X.env pos' newDict false (eval iter X.env) use) Qf X.xe s := by
  have free : ∀ y ∈ scope.names, y.2 = .free → ∃ c, X.env.cells.lookup y.1 = some c := fun y hy e => (blk.free y hy e).elim (fun z => I.ok.has _ (.inl z)) fun z => I.ok.has _ (.inr z)
  refine wpAny_comprehension_free (use := use) rfl fold (closure_ok free) blk.kind (fun y hy e => (blk.uniq y hy).trans (by rw [e])) (thn (it.run pins s σ H _ I h) fun xv s1 z1 => thn z1 fun iv s2 z2 => ?_)
  obtain ⟨ia, fp, tn, J, H2, rfl, I2, T, st2, f2, q⟩ := z2
  refine wpAny_newObj_type (newEnv_comp ?_)
  generalize eD : s2.heap.objs.size = D
  have D0 : H2 D = none := I2.hok.fresh (Nat.le_of_eq eD)
  obtain ⟨W, ⟨m0, w0⟩, turn⟩ := q D D0
  generalize e3 : ({ s2 with heap := s2.heap.push { cls := .type "dict", data := .dict #[] } } : Shared) = s3
  have I3 : Inv X pins σ (upd H2 D (.dK [])) s3 := by
    subst e3
    refine I2.laid (t' := s2.toks) (fun b u z => Heap.get?_push_of_some _ z) (Nat.le_of_eq eD) ?_
    cases eD
    exact dk_empty s2.heap I2.big
  have p3 : s3.heap = s2.heap.push { cls := .type "dict", data := .dict #[] } := by rw [← e3]
  have low : ∀ b ∈ fp, b < s2.heap.objs.size := fun b hb => let ⟨u, z, _⟩ := T.obj _ _ st2 b hb; Heap.lt_size z
  have f3 : ∀ b ∈ fp, FpOk X pins (upd H2 D (.dK [])) b ∧ b < s3.heap.objs.size := fun b hb => by
    have lt := low b hb
    refine ⟨⟨(upd_ne (by rw [← eD]; exact Nat.ne_of_lt lt)).trans (f2 b hb).1, (f2 b hb).2⟩, ?_⟩
    rw [p3, Heap.size_push]
    exact Nat.lt_succ_of_lt lt
  have st3 : tn 0 s3.heap := T.keep _ _ _ st2 fun b _ u z => by rw [p3]; exact Heap.get?_push_of_some _ z
  have I4 := block_start I3 blk nd f3
  have pg := dg s3 (upd H2 D (.dK [])) s3.heap.objs.size (cellsFrom (s3.heap.objs.size + 1) scope.names (cloFrom X.env.cells scope.names [])) fp
  have pt := dt s3 (upd H2 D (.dK [])) s3.heap.objs.size (cellsFrom (s3.heap.objs.size + 1) scope.names (cloFrom X.env.cells scope.names [])) fp
  have pk := dk s3 (upd H2 D (.dK [])) s3.heap.objs.size (cellsFrom (s3.heap.objs.size + 1) scope.names (cloFrom X.env.cells scope.names [])) fp
  have pv := dv s3 (upd H2 D (.dK [])) s3.heap.objs.size (cellsFrom (s3.heap.objs.size + 1) scope.names (cloFrom X.env.cells scope.names [])) fp
  show codeAny _ _ (.compStart (.DictComp kx vx [⟨tg, iter, ifs, 0⟩] scope pos) 0 (.ref ia) (.ref D) (compEnvC scope (cellsFrom (s3.heap.objs.size + 1) scope.names (cloFrom X.env.cells scope.names [])) s3.heap.objs.size X.env)) (compPost (model X.prog X.w) X.A X.xe use Qf (.ref D) s3.heap.objs.size) { s3 with heap := pushCells (s3.heap.push { cls := .type "dict", data := .dict #[] }) scope.names }
  have no : ∀ b ∈ fp, (upd H2 D (.dK [])) b = none := fun b hb => (f3 b hb).1.1
  generalize ece : compEnvC scope (cellsFrom (s3.heap.objs.size + 1) scope.names (cloFrom X.env.cells scope.names [])) s3.heap.objs.size X.env = ce at I4 pg pt pk pv ⊢
  have cl : ce.locals = s3.heap.objs.size := by cases ece; rfl
  generalize eH3 : upd H2 D (.dK []) = H3 at I3 I4 pg pt pk pv w0 no f3
  generalize e4 : ({ s3 with heap := pushCells (s3.heap.push { cls := .type "dict", data := .dict #[] }) scope.names } : Shared) = s4 at I4 ⊢
  have st4 : tn 0 s4.heap := T.keep _ _ _ st3 fun b _ u z => by rw [← e4]; exact pushCells_keeps _ _ _ _ (Heap.get?_push_of_some _ z)
  have still : ∀ {σ' : L2.St} {H' : Hp} {s' : Shared}, Inv (X.blk s3 H3 scope ce fp) [] σ' H' s' → (∀ b ∈ fp, H' b = none) → ∀ b ∈ fp, FpOk (X.blk s3 H3 scope ce fp) [] H' b := fun {σ' H' s'} K n b hb =>
    ⟨n b hb, (K.ok.exf b hb).1, K.ok.exfs b hb, .inl hb, fun x c z => (K.ok.exf b hb).2 x c z, fun p hp => nomatch (show p ∈ ([] : List (Addr × Obj)) from hp)⟩
  have loop : codeAny (model X.prog X.w) X.A (.compLoop (.DictComp kx vx [⟨tg, iter, ifs, 0⟩] scope pos) 0 (.ref ia) (.ref D) ce) (compPost (model X.prog X.w) X.A X.xe use Qf (.ref D) s3.heap.objs.size) s4 := by
    refine compLoop_anyD (fun n s' => ∃ i H', Inv (X.blk s3 H3 scope ce fp) [] (wipe σ (own.map (·.2))) H' s' ∧ tn i s'.heap ∧ (∀ b ∈ fp, H' b = none) ∧ W i n H') (fun n s5 ⟨i, H5, I5, st5, n5, w5⟩ => ?_) m0 ⟨0, H3, I4, st4, no, w0⟩
    rcases turn i n H5 w5 with ⟨stop, fin⟩ | ⟨go, N, nx, step⟩
    · refine thnF (T.done (X.blk s3 H3 scope ce fp) rfl rfl rfl calm i [] s5 _ H5 (fun _ _ => False) I5 (still I5 n5) st5 stop) fun v s6 z => ?_
      obtain ⟨rfl, I6⟩ := z
      have I7 : Inv X pins σ H5 s6 := I3.call' (ch := fp) I6.os I6.base I6.hok I6.bare fun b hb => let k := (f3 b hb).1; ⟨k.2.2.2.1, k.2.1, k.2.2.2.2.1, k.2.2.2.2.2⟩
      have c0 : H5 s3.heap.objs.size = none := by rw [← cl]; exact I6.free
      obtain ⟨m, ns, _⟩ := I6.loc
      have ns : s6.heap.Ns s3.heap.objs.size m := by rw [← cl]; exact ns
      obtain ⟨kvs, de, fin⟩ := fin
      obtain ⟨H9, sb9, dz9, k9, J9⟩ := frz_z I7 de
      have nd9 : s3.heap.objs.size ≠ D := by rw [p3, Heap.size_push, eD]; exact Nat.succ_ne_self D
      exact back D s3.heap.objs.size s6 m H9 J9 (fin H9 sb9 dz9) ns (I3.fpOk (Nat.le_refl _) ((k9 _ nd9).trans c0))
    · refine thnF (T.item (X.blk s3 H3 scope ce fp) rfl rfl rfl calm i [] s5 _ H5 (fun _ _ => False) I5 (still I5 n5) st5 go) fun v s6 z => ?_
      obtain ⟨u, rfl, z⟩ := z
      refine thnF z fun _ s7 z => ?_
      obtain ⟨x, H7, I7, r7, y7, st7, n7⟩ := z
      have J7 := I7.pinned (still I7 n7) (T.obj _ _ st7)
      refine thnF (pg.run _ s7 _ H7 x u _ J7 r7 (step x H7 y7)) fun _ s8 z => ?_
      obtain ⟨σ8, H8, I8, ew, q8⟩ := z
      refine thnF (pt.run _ s8 σ8 H8 _ I8 q8) fun b s9 z => ?_
      obtain ⟨H9, I9, q9⟩ := z
      have len8 : (wipe σ (own.map (·.2))).length = σ8.length := (congrArg List.length ew.symm).trans (wipe_length ..)
      have end_ : ∀ {s' : Shared} {H' : Hp}, Inv (X.blk s3 H3 scope ce fp) ([] ++ pinsAt fp s7.heap) σ8 H' s' → N H' → ∃ m, m < n ∧ ∃ i H', Inv (X.blk s3 H3 scope ce fp) [] (wipe σ (own.map (·.2))) H' s' ∧ tn i s'.heap ∧ (∀ b ∈ fp, H' b = none) ∧ W i m H' := fun {s' H'} K hN => by
        obtain ⟨m, lt, w⟩ := nx H' hN
        have pin : ∀ b ∈ fp, ∀ u, s7.heap.get? b = some u → s'.heap.get? b = some u ∧ H' b = none := fun b hb u z => by
          obtain ⟨z1, z2, _⟩ := K.pin (b, u) (List.mem_append_right _ (List.mem_append_right _ (mem_pinsAt hb z)))
          exact ⟨z1, z2⟩
        refine ⟨m, lt, i + 1, H', (K.unpinned (pins := [])).weak len8 (fun j v z => (wipe_some (ew ▸ z)).1), T.keep _ _ _ st7 fun b hb u z => (pin b hb u z).1, fun b hb => ?_, w⟩
        obtain ⟨u, z, _⟩ := T.obj _ _ st7 b hb
        exact (pin b hb u z).2
      match b, q9 with
      | false, q9 => exact end_ I9 q9
      | true, q9 =>
        refine thnF (pk.run _ s9 σ8 H9 _ I9 q9) fun ku s10 z => ?_
        obtain ⟨ky, H10, I10, r10, q10⟩ := z
        refine thnF (pv.run _ s10 σ8 H10 _ I10 q10) fun vu s11 z => ?_
        obtain ⟨vy, H11, I11, r11, put⟩ := z
        exact dictSet_z (X := X.blk s3 H3 scope ce fp) room I11 put r10 r11 fun H12 s12 I12 q12 => end_ I12 q12
  exact codeAny_compStart_dict loop (T.self X.A 0 _ _ _ st4 loop)
theorem pe_dgZ {kx vx tg iter : Expr} {ifs : List Expr} {scope : Scope} {own : List (Str × Nat)} {pos : Pos} {wi : TI} {g : TG} {tt : TT} {tk tv : TE} (room : X.A.units < cLine) (calm : X.calm = true) (nd : X.N.Nodup) (it : PI X tg iter wi) (blk : BlkOk X.N X.env.scope scope own)
    (dg : ∀ (s : Shared) (H : Hp) (C : Addr) (cl : List (Str × Addr)) (fp : List Addr), PG (X.blk s H scope (compEnvC scope cl C X.env) fp) tg g) (dt : ∀ (s : Shared) (H : Hp) (C : Addr) (cl : List (Str × Addr)) (fp : List Addr), PTs (X.blk s H scope (compEnvC scope cl C X.env) fp) ifs tt)
    (dk : ∀ (s : Shared) (H : Hp) (C : Addr) (cl : List (Str × Addr)) (fp : List Addr), PE (X.blk s H scope (compEnvC scope cl C X.env) fp) kx tk)
    (dv : ∀ (s : Shared) (H : Hp) (C : Addr) (cl : List (Str × Addr)) (fp : List Addr), PE (X.blk s H scope (compEnvC scope cl C X.env) fp) vx tv) (fold : ∀ x, foldedSetIterable iter X.env x = pure x := by intro _; rfl) :
    PE X (.DictComp kx vx [⟨tg, iter, ifs, 0⟩] scope pos) (tDgZ (X.prog, X.w) wi g tt tk tv (own.map (·.2))) := by
  constructor
  intro pins s σ H Q I h
  rw [arm_eval_DictComp]
  refine dg_coreZ room calm nd I it blk dg dt dk dv fold h fun D C s' m H' J q ns fo => ⟨m, ns, fun h2 sb => ?_⟩
  obtain ⟨p0, p1, p2, p3, p4, p5⟩ := fo
  exact ⟨.ref D, H', J.turned (t' := s'.toks) (fun b u ne e => (sb.2 b ne).trans e) p0 p1 p3 p4 p5, rfl, q⟩
theorem ps_setDgZ {i : Nat} {nm : Str} {py : Pos} {kx vx tg iter : Expr} {ifs : List Expr} {scope : Scope} {own : List (Str × Nat)} {pos spos : Pos} {wi : TI} {g : TG} {tt : TT} {tk tv : TE} (room : X.A.units < cLine) (calm : X.calm = true) (nd : X.N.Nodup) (hi : X.N[i]? = some nm)
    (hloc : X.env.scope.names.lookup nm = some .local) (sw : swapsWith (.DictComp kx vx [⟨tg, iter, ifs, 0⟩] scope pos) (some (.Name nm py)) spos.line X.env = pure true) (it : PI X tg iter wi) (blk : BlkOk X.N X.env.scope scope own)
    (dg : ∀ (s : Shared) (H : Hp) (C : Addr) (cl : List (Str × Addr)) (fp : List Addr), PG (X.blk s H scope (compEnvC scope cl C X.env) fp) tg g) (dt : ∀ (s : Shared) (H : Hp) (C : Addr) (cl : List (Str × Addr)) (fp : List Addr), PTs (X.blk s H scope (compEnvC scope cl C X.env) fp) ifs tt)
    (dk : ∀ (s : Shared) (H : Hp) (C : Addr) (cl : List (Str × Addr)) (fp : List Addr), PE (X.blk s H scope (compEnvC scope cl C X.env) fp) kx tk)
    (dv : ∀ (s : Shared) (H : Hp) (C : Addr) (cl : List (Str × Addr)) (fp : List Addr), PE (X.blk s H scope (compEnvC scope cl C X.env) fp) vx tv) (fold : ∀ x, foldedSetIterable iter X.env x = pure x := by intro _; rfl) :
    PS X (.Assign [.Name nm py] (.DictComp kx vx [⟨tg, iter, ifs, 0⟩] scope pos) spos) (tAsg (tDgZ (X.prog, X.w) wi g tt tk tv (own.map (·.2))) (gName i)) := by
  constructor
  intro pins s σ H En I h
  rw [exec_Assign_Name_used (hs := sw)]
  refine wpAny_bind (wpAny_standAt (wpAny_bind ?_))
  have h : tDgZ (X.prog, X.w) wi g tt tk tv (own.map (·.2)) σ H (fun x H1 => gName i x σ H1 En.nx) := h
  show wpAny _ X.A (do let _ ← comprehension (.DictComp kx vx [⟨tg, iter, ifs, 0⟩] scope pos) scope X.env (firstIterPos [⟨tg, iter, ifs, 0⟩] pos) newDict false (eval iter X.env) (some (assign (.Name nm py) X.env))) _ _ s
  refine wpAny_bind (thn (dg_coreZ (Qf := fun _ s' => SP X pins En .next s') room calm nd I it blk dg dt dk dv fold h ?_) fun _ s' z => wpAny_pure (wpAny_pure z))
  intro D C s' m H' J q ns fo
  obtain ⟨p0, p1, p2, p3, p4, p5⟩ := fo
  refine wpAny_assign_Name (store_ok2 (v := V.ref D) J nd hi (.inl hloc) rfl (fun s2 J2 ⟨a, sb, ha⟩ => ?_) (.inr hloc))
  have ca : C ≠ a := ha.elim (fun z => z ▸ p1) fun z e => p4 nm a z e.symm
  exact ⟨m, ns.sameBut sb ca, fun h3 sb3 => ⟨_, H', J2.turned (t' := s2.toks) (fun b u ne e => (sb3.2 b ne).trans e) p0 p1 p3 p4 p5, q⟩⟩
end
/-! ### {k: v} -/
def tDispZ (z : Pw) (tk tv : TE) : TE := fun σ H Q => ∀ p, H p = none → tk σ (upd H p (.dK [])) fun x H1 => tv σ H1 fun y H2 => H2 p = some (.dK []) ∧ ∃ k b, x = .ref b ∧ TupZ H2 b (k.map kV) ∧ ∀ H', SB p H2 H' → DZ z H' p [(k, y)] → Q (.ref p) H'
section
variable {X : Cx}
theorem pe_dispZ {pos : Pos} {k v : Expr} {tk tv : TE} (room : X.A.units < cLine) (hk : PE X k tk) (hv : PE X v tv) : PE X (.Dict [some k] [v] pos) (tDispZ (X.prog, X.w) tk tv) := by
  constructor
  intro pins s σ H Q I q
  have n0 := I.hok.fresh (Nat.le_refl s.heap.objs.size)
  have J := I.laid (a := s.heap.objs.size) (o := .dK []) (h' := s.heap.push { cls := .type "dict", data := .dict #[] }) (t' := s.toks) (fun _ _ z => Heap.get?_push_of_some _ z) (Nat.le_refl _) (dk_empty s.heap I.big)
  rw [arm_eval_Dict, zip_pairTrees [some k] [v] X.env pos rfl rfl, dictDisplay_pairs (pairTrees [some k] [v] X.env pos) (fun z => nomatch z) (show 1 < 17 by decide)]
  refine wpAny_bind (wpAny_standAt (wpAny_bind ?_))
  refine wpAny_subDictH (knd := tupleKind (mixKind X.prog X.w)) (Q := fun d s' => wpAny (model X.prog X.w) X.A (pure (Value.ref d)) (EP X pins σ Q) X.xe s') room (show 1 ≤ 15 by decide) ?_
  refine thn ((pps_cons hk hv pps_nil).run pins _ σ _ (fun ps H2 => match ps with
    | [(x, y)] => H2 s.heap.objs.size = some (.dK []) ∧ ∃ k b, x = .ref b ∧ TupZ H2 b (k.map kV) ∧ ∀ H', SB s.heap.objs.size H2 H' → DZ (X.prog, X.w) H' s.heap.objs.size [(k, y)] → Q (.ref s.heap.objs.size) H'
    | _ => False) J (q _ n0)) fun ws s2 z => ?_
  obtain ⟨ps, H2, J2, rel, z⟩ := z
  cases rel with
  | nil => exact z.elim
  | @cons p0 q0 ps0 qs0 rr r2 =>
    cases r2 with
    | cons _ _ => exact z.elim
    | nil =>
      obtain ⟨x, y⟩ := p0
      obtain ⟨ku, vu⟩ := q0
      obtain ⟨e, key, b, ex, eb, q2⟩ := z
      subst ex
      obtain rfl : ku = Value.ref b := rr.1
      obtain ⟨sys, mu, xs, kt, dd⟩ := de_of J2.hok (DE.new (z := (X.prog, X.w)) e)
      cases kt
      have es : storedH ([] : List (List Key × Addr × Value)) key b vu = [(key, b, vu)] := by
        unfold storedH
        rw [if_neg (by unfold atKey; simp)]
        rfl
      refine ⟨[(key, b, vu)], ⟨rfl, rfl, key_z J2.hok eb, trivial⟩, dd, fun h2 tk2 dd2 sb => ?_⟩
      have dd3 : h2.DictOfH (tupleKind (mixKind X.prog X.w)) s.heap.objs.size (storedH [] key b vu) := by
        rw [es]
        exact dd2
      obtain ⟨H3, sb3, dx3, J3⟩ := put_z (t' := tk2) (kvs := []) (k := key) (xs := []) (v := y) J2 sys mu .nil (by decide) eb rr.2 dd3 sb
      obtain ⟨H4, sb4, dz4, _, J4⟩ := frz_z J3 (.inl dx3)
      exact wpAny_pure ⟨.ref s.heap.objs.size, H4, J4, rfl, q2 H4 (sb3.trans sb4) dz4⟩
/-- == of two such dicts with numbers -/
def rEqZ (z : Pw) : R2 := fun x y H Q => ∃ a b ks ls, x = .ref a ∧ y = .ref b ∧ DR z H a ks ∧ DR z H b ls ∧ intsT ks ∧ intsT ls ∧ Q (.bl (sameT ks ls)) H
theorem op_eqZ (room : X.A.units + 1 < cLine) : OpR X (compareOp .Eq) (rEqZ (X.prog, X.w)) := by
  intro pins s σ H x y v u Q I rx ry h
  obtain ⟨a, b, ks, ls, rfl, rfl, ea, eb, ia, ib, q⟩ := h
  cases (show v = Value.ref a from rx)
  cases (show u = Value.ref b from ry)
  obtain ⟨ya, va, ra, da⟩ := dr_of I.hok ea
  obtain ⟨yb, vb, rb, db⟩ := dr_of I.hok eb
  refine eq_dictsT room ya yb da db (fun _ => hits_T (X := X) rb ib ra ia) (fin_bl I q ?_)
  unfold sameT
  rw [show ks.length = va.length from Paired.length ra, show ls.length = vb.length from Paired.length rb]
  rfl
/-! ### tuple(list) -/
def oTupleZ (K : PySem.W.Frag) : List V → Hp → VK → Prop := fun xs H Q => ∃ p ys, xs = [.ref p] ∧ SqL K H p ys ∧ ∀ l H', H l = none → Same H H' → TupZ H' l ys → Q (.ref l) H'
theorem cr_tupZ : CallR X (.type "tuple") (oTupleZ X.K) := by
  intro pins s σ H xs us Q I r h
  obtain ⟨p, ys, rfl, hq, q⟩ := h
  obtain ⟨u, rfl, rx⟩ := vals1 r
  cases rx
  obtain ⟨its, r', pl, hz⟩ := I.list hq
  have hlen := r'.length
  refine call_tuple_list pl.isList (fun h' kp => ?_) (by simp only [List.size_toArray] <;> omega)
  have I1 : Inv X pins σ H { s with heap := h' } := I.kept (t' := s.toks) kp
  have n0 := I1.hok.fresh (Nat.le_refl h'.objs.size)
  have I2 : Inv X pins σ (upd H h'.objs.size (.frz _ (.tup ys))) { s with heap := h'.push { cls := .type "tuple", data := .seq its.toArray } } :=
    I1.laid (t' := s.toks) (fun b o e => Heap.get?_push_of_some _ e) (Nat.le_refl _) (tup_laid hz r' (Heap.get?_push_size _ rfl) rfl rfl)
  exact ⟨.ref h'.objs.size, _, I2, rfl, q _ _ n0 (same_new n0) ⟨_, upd_same, rfl⟩⟩
/-! ### t.count(text) -/
def tCntZ (to te : TE) : TE := fun σ H Q => to σ H fun x H1 => ∃ p ks, x = .ref p ∧ TupZ H1 p (strL ks) ∧ te σ H1 fun y H2 => TupZ H2 p (strL ks) ∧ ∃ k, y = .str k ∧ Q (.int (ks.count k : Nat)) H2
theorem pe_cntZ {o e : Expr} {to te : TE} {apos cpos : Pos} (ho : PE X o to) (ha : PE X e te) (m : M1 X o "count" apos e cpos) : PE X (.Call (.Attribute o "count" apos) [e] [] cpos) (tCntZ to te) := by
  refine ⟨fun pins s σ H Q I h => ?_⟩
  refine wpAny_Call_method m.base m.few m.line PySem.F.plainAttrs_tuple PySem.F.slot_tuple_count PySem.F.type_tuple_count (thn (ho.run pins s σ H _ I h) fun u s1 ⟨x, H1, I1, rx, p, ks, ex, tz, q1⟩ => ?_)
  subst ex
  obtain rfl : u = Value.ref p := rx
  obtain ⟨ob, et, dn⟩ := tz
  obtain ⟨g1, _, its0, _, o2, g2, cls2, _⟩ := (show ObjOk X.prog X.w H1 s1.heap p (.frz ob (.tup (strL ks))) from I1.hok p _ et)
  cases g1.symm.trans g2
  refine ⟨⟨ob, g1, cls2⟩, fun b z => by cases z; exact ⟨ob, g1, dn⟩, ?_⟩
  rw [m.trees]
  refine Calls.callWith_builtin rfl (Calls.evalArgs_plain (Calls.spliced_cons (thn (ha.run pins s1 σ H1 _ I1 q1) fun iv s2 ⟨y, H2, I2, ry, tz2, k, ey, q2⟩ => Calls.spliced_nil ?_)))
  subst ey
  obtain ⟨t, rfl⟩ := (show ∃ t, iv = Value.str k t from ry)
  obtain ⟨ob2, et2, dn2⟩ := tz2
  obtain ⟨g1', hlen, its, rv, ⟨cls, dd, data, sl⟩, g2', c2, n, d2⟩ := (show ObjOk X.prog X.w H2 s2.heap p (.frz ob2 (.tup (strL ks))) from I2.hok p _ et2)
  simp only at c2 d2
  subst c2 d2
  have gv := txt_gives (k := k) (t := t) rv
  have cn : its.toArray.toList.countP (isTxt k) = ks.count k := txt_count rv
  refine call_meets PySem.F.slot_tuple_count ⟨_, g2', rfl⟩ PySem.F.entry_tuple_count (PySem.F.args_tuple_count_2 _ _)
    (SeqAt.tuple_countAt p its.toArray n dd sl (.str k t) (isTxt k)) ⟨g2', fun y hy => (gv y (by simpa using hy)).at _ _, .int (ks.count k : Nat), H2, I2.tok _, ⟨s2.toks, ?_⟩, q2⟩
  show Value.int ((its.toArray.toList.countP (isTxt k) : Nat) : Int) s2.toks = _
  rw [cn]
end
end CP

set_option Elab.async false
set_option linter.all false
set_option maxRecDepth 100000
set_option maxHeartbeats 4000000
set_option autoImplicit false
/-! forms whose rows are known to the object: loops, readings -/
namespace CP
open L2 PySem PyProof.Rows
section
variable {K : PySem.W.Frag} {z : Pw} {d : Addr} {od : Obj} {kvs : List (List Key × V)} {g : TG} {tb : TS} {D : Ends} {σ : L2.St} {H : Hp}
/-- for k, v in d.items() -/
theorem for_pz (Pv : Nat → L2.St → Hp → Prop) (start : Pv 0 σ H) (stay : ∀ i σ H, i ≤ kvs.length → Pv i σ H → DO z od H d kvs)
    (step : ∀ (i : Nat) (k : List Key) (v : V) (t q : Addr) (σ : L2.St) (H H' : Hp), kvs[i]? = some (k, v) → Pv i σ H → H t = none → TupZ H q (k.map kV) → Same H H' → H' t = some (.tup [.ref q, v]) → g (.ref t) σ H' fun σ2 H2 => tb { D with nx := Pv (i + 1), ct := Pv (i + 1), bk := D.nx } σ2 H2) (fin : ∀ σ H, Pv kvs.length σ H → D.nx σ H) :
    ∃ W : Nat → Nat → L2.St → Hp → Prop, (∃ m, W 0 m σ H) ∧ ∀ i m σ H, W i m σ H →
      ((Itpz z d od kvs).stop i H ∧ D.nx σ H) ∨ ((Itpz z d od kvs).go i H ∧ ∃ N : L2.St → Hp → Prop, (∀ σ' H', N σ' H' → ∃ m', m' < m ∧ W (i + 1) m' σ' H') ∧ ∀ x H', (Itpz z d od kvs).yld i H x H' → g x σ H' fun σ2 H2 => tb { D with nx := N, ct := N, bk := D.nx } σ2 H2) := by
  refine ⟨fun i m σ H => m = kvs.length - i ∧ i ≤ kvs.length ∧ Pv i σ H, ⟨_, rfl, Nat.zero_le _, start⟩, fun i m σ H ⟨em, hi, p⟩ => ?_⟩
  subst em
  have at_ := stay i σ H hi p
  rcases Nat.lt_or_ge i kvs.length with lt | ge
  · refine .inr ⟨⟨at_, lt⟩, Pv (i + 1), fun σ' H' p' => ⟨kvs.length - (i + 1), by omega, rfl, lt, p'⟩, fun x H' y => ?_⟩
    obtain ⟨t, k, v, q, hk, rfl, t0, hq, rfl⟩ := y
    exact step i k v t q σ H _ hk p t0 hq (same_new t0) upd_same
  · obtain rfl : i = kvs.length := by omega
    exact .inl ⟨⟨at_, Nat.le_refl _⟩, fin σ H p⟩
/-- for v in d.values() -/
theorem for_vz (Pv : Nat → L2.St → Hp → Prop) (start : Pv 0 σ H) (stay : ∀ i σ H, i ≤ kvs.length → Pv i σ H → DO z od H d kvs)
    (step : ∀ i k v σ H, kvs[i]? = some (k, v) → Pv i σ H → g v σ H fun σ2 H2 => tb { D with nx := Pv (i + 1), ct := Pv (i + 1), bk := D.nx } σ2 H2) (fin : ∀ σ H, Pv kvs.length σ H → D.nx σ H) :
    ∃ W : Nat → Nat → L2.St → Hp → Prop, (∃ m, W 0 m σ H) ∧ ∀ i m σ H, W i m σ H →
      ((Itvz z d od kvs).stop i H ∧ D.nx σ H) ∨ ((Itvz z d od kvs).go i H ∧ ∃ N : L2.St → Hp → Prop, (∀ σ' H', N σ' H' → ∃ m', m' < m ∧ W (i + 1) m' σ' H') ∧ ∀ x H', (Itvz z d od kvs).yld i H x H' → g x σ H' fun σ2 H2 => tb { D with nx := N, ct := N, bk := D.nx } σ2 H2) := by
  refine ⟨fun i m σ H => m = kvs.length - i ∧ i ≤ kvs.length ∧ Pv i σ H, ⟨_, rfl, Nat.zero_le _, start⟩, fun i m σ H ⟨em, hi, p⟩ => ?_⟩
  subst em
  have at_ := stay i σ H hi p
  rcases Nat.lt_or_ge i kvs.length with lt | ge
  · refine .inr ⟨⟨at_, lt⟩, Pv (i + 1), fun σ' H' p' => ⟨kvs.length - (i + 1), by omega, rfl, lt, p'⟩, fun x H' y => ?_⟩
    obtain ⟨rfl, k, hk⟩ := y
    exact step i k x σ _ hk p
  · obtain rfl : i = kvs.length := by omega
    exact .inl ⟨⟨at_, Nat.le_refl _⟩, fin σ H p⟩
end
section
variable {z : Pw} {d : Addr} {od : Obj} {kvs : List (List Key × V)} {g : TG} {tt : TT} {te tk tv : TE} {vs : List Nat} {σ : L2.St} {H1 : Hp} {D : Addr} {Qd : Hp → Prop}
/-- [.. for k in d], each key one item -/
theorem lc_kz (ys : List V) (D0 : H1 D = none) (ha : DO z od H1 d kvs) (hl : kvs.length = ys.length) (hz : kvs.length < sizeLine)
    (step : ∀ (i : Nat) (k : List Key) (v y : V) (q : Addr) (H : Hp) (N : Hp → Prop), kvs[i]? = some (k, v) → ys[i]? = some y → Same H1 H → TupZ H q (k.map kV) →
      (∀ H', Same H H' → ∃ acc, H' D = some (.lst acc) ∧ acc.length < sizeLine ∧ N (upd H' D (.lst (acc ++ [y])))) →
      g (.ref q) (wipe σ vs) H fun σ2 H3 => wipe σ2 vs = wipe σ vs ∧ tt σ2 H3 fun b H4 => if b = true then te σ2 H4 fun y H5 => ∃ acc, H5 D = some (.lst acc) ∧ acc.length < sizeLine ∧ N (upd H5 D (.lst (acc ++ [y]))) else N H4)
    (fin : ∀ H, Same H1 H → H D = some (.lst ys) → Qd H) :
    ∃ W : Nat → Nat → Hp → Prop, (∃ m, W 0 m (upd H1 D (.lst []))) ∧ ∀ i m H, W i m H →
      ((Itkz z d od kvs).stop i H ∧ Qd H) ∨ ((Itkz z d od kvs).go i H ∧ ∃ N : Hp → Prop, (∀ H', N H' → ∃ m', m' < m ∧ W (i + 1) m' H') ∧ ∀ x H', (Itkz z d od kvs).yld i H x H' → g x (wipe σ vs) H' fun σ2 H2 => wipe σ2 vs = wipe σ vs ∧ tt σ2 H2 fun b H3 =>
        if b = true then te σ2 H3 fun y H4 => ∃ acc, H4 D = some (.lst acc) ∧ acc.length < sizeLine ∧ N (upd H4 D (.lst (acc ++ [y]))) else N H3) := by
  refine ⟨fun i m H => m = kvs.length - i ∧ i ≤ kvs.length ∧ Same H1 H ∧ H D = some (.lst (ys.take i)), ⟨_, rfl, Nat.zero_le _, same_new D0, upd_same⟩, fun i m H ⟨em, hi, s1, hD⟩ => ?_⟩
  subst em
  have at_ := ha.keep (.of s1)
  rcases Nat.lt_or_ge i kvs.length with lt | ge
  · refine .inr ⟨⟨at_, lt⟩, fun H => Same H1 H ∧ H D = some (.lst (ys.take (i + 1))), fun H' p => ⟨kvs.length - (i + 1), by omega, rfl, lt, p⟩, fun x H' y => ?_⟩
    obtain ⟨rfl, k, v, q, hk, rfl, hq⟩ := y
    obtain ⟨o, ho⟩ : ∃ o, ys[i]? = some o := ⟨_, List.getElem?_eq_getElem (by omega)⟩
    refine step i k v o q H' _ hk ho s1 hq fun H2 s2 => ⟨ys.take i, s2 _ _ hD, by rw [List.length_take]; omega, CP.Same.sb (s1.trans s2) D0 sb_upd, ?_⟩
    rw [upd_same, take_succ ho]
  · obtain rfl : i = kvs.length := by omega
    rw [hl, List.take_length] at hD
    exact .inl ⟨⟨at_, Nat.le_refl _⟩, fin H s1 hD⟩
/-- {k: .. for k, v in d.items() if ..} -/
theorem dg_pz (ys : List (Option V)) (nd : (kvs.map (·.1)).Nodup) (D0 : H1 D = none) (ha : DO z od H1 d kvs) (hl : kvs.length = ys.length) (hz : kvs.length < sizeLine)
    (step : ∀ (i : Nat) (k : List Key) (v : V) (o : Option V) (t q : Addr) (H H2 : Hp) (N : Hp → Prop), kvs[i]? = some (k, v) → ys[i]? = some o → Same H1 H → H t = none → TupZ H q (k.map kV) → Same H H2 → H2 t = some (.tup [.ref q, v]) →
      (o = none → ∀ H', Same H2 H' → N H') → (∀ u, o = some u → ∀ H', Same H2 H' → PutZ z H' D (.ref q) u N) →
      g (.ref t) (wipe σ vs) H2 fun σ2 H3 => wipe σ2 vs = wipe σ vs ∧ tt σ2 H3 fun b H4 => if b = true then tk σ2 H4 fun y H5 => tv σ2 H5 fun u H6 => PutZ z H6 D y u N else N H4)
    (fin : ∀ H, Same H1 H → DZ z H D (accT kvs ys kvs.length) → Qd H) :
    ∃ W : Nat → Nat → Hp → Prop, (∃ m, W 0 m (upd H1 D (.dK []))) ∧ ∀ i m H, W i m H →
      ((Itpz z d od kvs).stop i H ∧ ∃ kvs, DE z H D kvs ∧ ∀ H', SB D H H' → DZ z H' D kvs → Qd H') ∨ ((Itpz z d od kvs).go i H ∧ ∃ N : Hp → Prop, (∀ H', N H' → ∃ m', m' < m ∧ W (i + 1) m' H') ∧ ∀ x H', (Itpz z d od kvs).yld i H x H' → g x (wipe σ vs) H' fun σ2 H2 => wipe σ2 vs = wipe σ vs ∧ tt σ2 H2 fun b H3 =>
        if b = true then tk σ2 H3 fun y H4 => tv σ2 H4 fun u H5 => PutZ z H5 D y u N else N H3) := by
  refine ⟨fun i m H => m = kvs.length - i ∧ i ≤ kvs.length ∧ Same H1 H ∧ DE z H D (accT kvs ys i), ⟨_, rfl, Nat.zero_le _, same_new D0, ?_⟩, fun i m H ⟨em, hi, s1, hD⟩ => ?_⟩
  · rw [show accT kvs ys 0 = [] by unfold accT; rw [List.take_zero]; rfl]
    exact .new upd_same
  subst em
  have at_ := ha.keep (.of s1)
  rcases Nat.lt_or_ge i kvs.length with lt | ge
  · refine .inr ⟨⟨at_, lt⟩, fun H => Same H1 H ∧ DE z H D (accT kvs ys (i + 1)), fun H' p => ⟨kvs.length - (i + 1), by omega, rfl, lt, p⟩, fun x H' y => ?_⟩
    obtain ⟨t, k, v, q, hk, rfl, t0, hq, rfl⟩ := y
    obtain ⟨o, ho⟩ : ∃ o, ys[i]? = some o := ⟨_, List.getElem?_eq_getElem (by omega)⟩
    have s2 := same_new (o := .tup [.ref q, v]) t0
    have su := accT_succ hk ho
    refine step i k v o t q H _ _ hk ho s1 t0 hq s2 upd_same (fun e H' s3 => ?_) fun u e H' s3 => ?_
    · subst e
      refine ⟨s1.trans (s2.trans s3), ?_⟩
      rw [su, show ((none : Option V).map fun y => (k, y)).toList = [] from rfl, List.append_nil]
      exact hD.mono (s2.trans s3)
    · subst e
      have nk : valV (accT kvs ys i) k = none := by
        cases e : valV (accT kvs ys i) k with
        | none => rfl
        | some u =>
          obtain ⟨p, hp, e1, _⟩ := valV_mem e
          obtain ⟨j, w, jl, hj⟩ := accT_keys hp
          have a1 : (kvs.map (·.1))[j]? = some k := by rw [List.getElem?_map, hj, ← e1]; rfl
          have a2 : (kvs.map (·.1))[i]? = some k := by rw [List.getElem?_map, hk]; rfl
          have := (List.getElem?_inj (List.getElem?_eq_some_iff.mp a1).1 nd).mp (a1.trans a2.symm)
          omega
      have len := accT_len (kvs := kvs) (ys := ys) (i := i)
      refine ⟨_, k, q, rfl, hD.mono (s2.trans s3), hq.mono (s2.trans s3), by omega, fun H6 b6 x6 => ⟨CP.Same.sb (s1.trans (s2.trans s3)) D0 b6, ?_⟩⟩
      rw [putK_new _ nk] at x6
      rw [su]
      exact .inl x6
  · obtain rfl : i = kvs.length := by omega
    exact .inl ⟨⟨at_, Nat.le_refl _⟩, _, hD, fun H' b' z' => fin H' (CP.Same.sb s1 D0 b') z'⟩
end
/-! ### readings -/
section
variable {K : PySem.W.Frag} {z : Pw} {σ : L2.St} {H : Hp} {Q : VK} {d a : Addr} {kvs : List (List Key × V)} {t td ty tx tk tv to te : TE} {ta : TA} {ts : TS} {D : Ends} {wi : TI} {g : TG} {tt : TT} {vs : List Nat} {R : It → Hp → Prop}
theorem r_iItemsZ (q : td σ H fun x H1 => ∃ z d o kvs, x = .ref d ∧ DO z o H1 d kvs ∧ R (Itpz z d o kvs) H1) : iItemsZ td σ H R := q
theorem r_iValsZ (q : td σ H fun x H1 => ∃ z d o kvs, x = .ref d ∧ DO z o H1 d kvs ∧ R (Itvz z d o kvs) H1) : iValsZ td σ H R := q
theorem r_iKeysZ (q : td σ H fun x H1 => ∃ z d o kvs, x = .ref d ∧ DO z o H1 d kvs ∧ R (Itkz z d o kvs) H1) : iKeysZ td σ H R := q
theorem r_tupZ (q : ta σ H fun xs H1 => xs.length ≤ sizeLine ∧ ∀ p H', H1 p = none → Same H1 H' → TupZ H' p xs → Q (.ref p) H') : tTupZ ta σ H Q := q
theorem r_dgetZ (q : td σ H fun x H1 => ∃ a kvs, x = .ref a ∧ DR z H1 a kvs ∧ ty σ H1 fun y H2 => tx σ H2 fun v H3 => DR z H3 a kvs ∧ ∃ k b, y = .ref b ∧ KeyAt H3 b k ∧ Q ((valV kvs k).getD v) H3) : tDGetZ z td ty tx σ H Q := q
theorem r_dputZ (q : tv σ H fun v H1 => td σ H1 fun x H2 => ty σ H2 fun y H3 => ∃ a kvs k b, x = .ref a ∧ y = .ref b ∧ DE z H3 a kvs ∧ TupZ H3 b (k.map kV) ∧ kvs.length < sizeLine ∧ ∀ H', SB a H3 H' → DX z H' a (putK kvs k v) → D.nx σ H') : sDPutZ z td ty tv D σ H := q
theorem r_frzE (h : DE z H d kvs) (q : ∀ H', SB d H H' → DZ z H' d kvs → t σ H' Q) : tFrzE z t σ H Q := ⟨d, kvs, h, q⟩
theorem r_frzV (q : t σ H fun v H1 => ∃ d kvs, v = .ref d ∧ DE z H1 d kvs ∧ ∀ H', SB d H1 H' → DZ z H' d kvs → Q v H') : tFrzV z t σ H Q := q
theorem r_dispZ (q : ∀ p H1, H p = none → Same H H1 → H1 p = some (.dK []) → tk σ H1 fun x H2 => tv σ H2 fun y H3 => H3 p = some (.dK []) ∧ ∃ k b, x = .ref b ∧ TupZ H3 b (k.map kV) ∧ ∀ H', SB p H3 H' → DZ z H' p [(k, y)] → Q (.ref p) H') : tDispZ z tk tv σ H Q := fun p p0 => q p _ p0 (same_new p0) upd_same
theorem r_dgZ (q : wi σ H fun J H1 => ∀ D, H1 D = none → ∃ W : Nat → Nat → Hp → Prop, (∃ m, W 0 m (upd H1 D (.dK []))) ∧ ∀ i m H, W i m H →
  (J.stop i H ∧ ∃ kvs, DE z H D kvs ∧ ∀ H', SB D H H' → DZ z H' D kvs → Q (.ref D) H') ∨ (J.go i H ∧ ∃ N : Hp → Prop, (∀ H', N H' → ∃ m', m' < m ∧ W (i + 1) m' H') ∧ ∀ x H', J.yld i H x H' → g x (wipe σ vs) H' fun σ2 H2 => wipe σ2 vs = wipe σ vs ∧ tt σ2 H2 fun b H3 =>
    if b = true then tk σ2 H3 fun y H4 => tv σ2 H4 fun v H5 => PutZ z H5 D y v N else N H3)) : tDgZ z wi g tt tk tv vs σ H Q := q
theorem r_cntZ (q : to σ H fun x H1 => ∃ p ks, x = .ref p ∧ TupZ H1 p (strL ks) ∧ te σ H1 fun y H2 => TupZ H2 p (strL ks) ∧ ∃ k, y = .str k ∧ Q (.int (ks.count k : Nat)) H2) : tCntZ to te σ H Q := q
theorem r_tupLZ {p : Addr} {ys : List V} (h : SqL K H p ys) (q : ∀ l H', H l = none → Same H H' → TupZ H' l ys → Q (.ref l) H') : oTupleZ K [.ref p] H Q := ⟨p, ys, rfl, h, q⟩
theorem r_srtTZ {a : Addr} {xs : List Str} (h : SqT K H a (strL xs)) (few : xs.length ≤ 100000) (q : ∀ p H', H p = none → Same H H' → H' p = some (.lst (strL (srt xs))) → Q (.ref p) H') : rSortedTS K [.ref a] H Q := ⟨a, xs, rfl, h, few, q⟩
/-- two tuples put together -/
theorem r_catTZ {a b : Addr} {xs ys : List V} (ha : SqT K H a xs) (hb : SqT K H b ys) (few : xs.length + ys.length ≤ sizeLine) (q : ∀ p H', Same H H' → SqT K H' p (xs ++ ys) → Q (.ref p) H') : rCatA K (.ref a) (.ref b) H Q := by
  refine ⟨a, b, xs, ys, rfl, rfl, ha, hb, few, fun e => ?_, fun _ e => ?_, fun _ _ p p0 => q p _ (same_new p0) (.of upd_same)⟩
  · cases e
    exact q b H (Same.refl _) hb
  · cases e
    exact q a H (Same.refl _) (by rw [List.append_nil]; exact ha)
end
/-- a form -/
def FormZ (z : Pw) (C : Addr) (H : Hp) (o : Addr) (f : Fm) : Prop := ∃ dx d, H o = some (.ins C dx [("rows", .ref d), ("under", .int f.2)]) ∧ DZ z H d (rowsT f.1)
theorem FormZ.keep {z : Pw} {C : Addr} {H H' : Hp} {o : Addr} {f : Fm} (h : FormZ z C H o f) (k : FrzK H H') (e : ∀ dx fs, H o = some (.ins C dx fs) → H' o = some (.ins C dx fs)) : FormZ z C H' o f := by
  obtain ⟨dx, d, h1, h2⟩ := h
  exact ⟨dx, d, e _ _ h1, h2.keep k⟩
theorem FormZ.mono {z : Pw} {C : Addr} {H H' : Hp} {o : Addr} {f : Fm} (h : FormZ z C H o f) (s : Same H H') : FormZ z C H' o f := h.keep (.of s) fun _ _ e => s _ _ e
theorem FormZ.lk {z : Pw} {C : Addr} {H H' : Hp} {o a : Addr} {f : Fm} {kk : List (Key × V)} (h : FormZ z C H o f) (ha : H a = some (.dK kk)) (k : ∀ b u, b ≠ a → H b = some u → H' b = some u) : FormZ z C H' o f := by
  obtain ⟨dx, d, h1, oo, h2⟩ := h
  exact ⟨dx, d, k _ _ (fun z => by rw [z, ha] at h1; cases h1) h1, oo, h2.lk ha k⟩
/-- what stands beside the list l that is changed -/
theorem FormZ.sb {z : Pw} {C : Addr} {H H' : Hp} {o p : Addr} {f : Fm} (h : FormZ z C H o f) (n : ∀ o u, H p ≠ some (.frz o u)) (ni : ∀ dx fs, H p ≠ some (.ins C dx fs)) (s : SB p H H') : FormZ z C H' o f :=
  h.keep (.sb n s) fun dx fs e => s _ _ (fun w => ni dx fs (w ▸ e)) e
theorem FormZ.lst {z : Pw} {C : Addr} {H H' : Hp} {o p : Addr} {f : Fm} {xs : List V} (h : FormZ z C H o f) (hp : H p = some (.lst xs)) (s : SB p H H') : FormZ z C H' o f :=
  h.sb (fun _ _ e => by rw [hp] at e; cases e) (fun _ _ e => by rw [hp] at e; cases e) s
theorem FormZ.new {z : Pw} {C : Addr} {H H' : Hp} {o p : Addr} {f : Fm} {kvs : List (Key × V)} (h : FormZ z C H o f) (hp : H p = some (.dK kvs)) (s : SB p H H') : FormZ z C H' o f :=
  h.sb (fun _ _ e => by rw [hp] at e; cases e) (fun _ _ e => by rw [hp] at e; cases e) s
theorem frzk_dK {H H' : Hp} {p : Addr} {kvs : List (Key × V)} (hp : H p = some (.dK kvs)) (s : SB p H H') : FrzK H H' := .sb (fun _ _ e => by rw [hp] at e; cases e) s
/-- a pair put into such a dict -/
theorem put_rows {z : Pw} {H : Hp} {a : Addr} {rs : List Tm} {p : List Str} {n : Int} (nd : (rs.map (·.1)).Nodup) (h : DX z H a (putK (rowsT rs) (keyT p) (.int n))) : DE z H a (rowsT (putT rs p n)) := by
  rw [putT_val nd] at h
  exact .inl h
/-- the greatest of some counts -/
def maxL : List Nat → Nat
  | [] => 0
  | n :: l => max n (maxL l)
theorem maxL_le : ∀ {l : List Nat} {n : Nat}, n ∈ l → n ≤ maxL l
  | m :: l, n, h => by
    show n ≤ max m (maxL l)
    rcases List.mem_cons.mp h with e | h
    · omega
    · have := maxL_le h
      omega
theorem maxL_mem : ∀ (l : List Nat), maxL l = 0 ∨ maxL l ∈ l
  | [] => .inl rfl
  | m :: l => by
    show max m (maxL l) = 0 ∨ max m (maxL l) ∈ m :: l
    rcases maxL_mem l with h | h
    · by_cases e : m = 0
      · exact .inl (by omega)
      · rw [h, Nat.max_eq_left (Nat.zero_le _)]
        exact .inr (List.mem_cons_self ..)
    · rcases Nat.le_total m (maxL l) with le | le
      · rw [Nat.max_eq_right le]
        exact .inr (List.mem_cons_of_mem _ h)
      · rw [Nat.max_eq_left le]
        exact .inr (List.mem_cons_self ..)
theorem max_is {l : List Nat} {m : Int} (h : m ∈ (0 :: l.map fun n : Nat => (n : Int))) (u : ∀ y, y ∈ (0 :: l.map fun n : Nat => (n : Int)) → y ≤ m) : m = (maxL l : Nat) := by
  have a : m ≤ (maxL l : Nat) := by
    rcases List.mem_cons.mp h with e | h
    · omega
    · obtain ⟨n, hn, rfl⟩ := List.mem_map.mp h
      have := maxL_le hn
      omega
  have b : ((maxL l : Nat) : Int) ≤ m := by
    rcases maxL_mem l with e | e
    · rw [e]
      exact u 0 (List.mem_cons_self ..)
    · exact u _ (List.mem_cons_of_mem _ (List.mem_map.mpr ⟨_, e, rfl⟩))
  omega
/-- the greatest of a list of counts behind a 0 -/
theorem r_maxL {K : PySem.W.Frag} {H : Hp} {Q : VK} {a : Addr} {l : List Nat} (h : H a = some (.lst (.int 0 :: l.map fun n : Nat => V.int n))) (q : Q (.int (maxL l : Nat)) H) : rMax K [.ref a] H Q := by
  refine ⟨a, 0 :: l.map fun n : Nat => (n : Int), rfl, .of (by rw [h, List.map_cons, List.map_map]; rfl), by simp, fun m hm hu => ?_⟩
  rw [max_is hm hu]
  exact q
section
variable {K : PySem.W.Frag} {a : Addr} {g : TG} {tt : TT} {te : TE} {vs : List Nat} {σ : L2.St} {H1 : Hp} {D : Addr} {Qd : Hp → Prop}
/-- [x for x in tuple of texts if ..] -/
theorem lc_filT {l : List Str} (p : Str → Bool) (hD : H1 D = none) (ha : SqT K H1 a (strL l)) (hz : l.length < sizeLine)
    (hs : ∀ (i : Nat) (w : Str) (H : Hp) (N : Hp → Prop), l[i]? = some w → Same H1 H → (∀ H', p w = false → Same H H' → N H') → (∀ H', p w = true → Same H H' → ∃ acc, H' D = some (.lst acc) ∧ acc.length < sizeLine ∧ N (upd H' D (.lst (acc ++ [.str w])))) →
      g (.str w) (wipe σ vs) H fun σ2 H2 => wipe σ2 vs = wipe σ vs ∧ tt σ2 H2 fun b H3 => if b = true then te σ2 H3 fun y H4 => ∃ acc, H4 D = some (.lst acc) ∧ acc.length < sizeLine ∧ N (upd H4 D (.lst (acc ++ [y]))) else N H3)
    (hd : ∀ H, Same H1 H → H D = some (.lst (strL (l.filter p))) → Qd H) :
    ∃ W : Nat → Nat → Hp → Prop, (∃ m, W 0 m (upd H1 D (.lst []))) ∧ ∀ i m H, W i m H →
      ((Itt K a).stop i H ∧ Qd H) ∨ ((Itt K a).go i H ∧ ∃ Nx : Hp → Prop, (∀ H', Nx H' → ∃ m', m' < m ∧ W (i + 1) m' H') ∧ ∀ x H', (Itt K a).yld i H x H' → g x (wipe σ vs) H' fun σ2 H2 => wipe σ2 vs = wipe σ vs ∧ tt σ2 H2 fun b H3 =>
        if b = true then te σ2 H3 fun y H4 => ∃ acc, H4 D = some (.lst acc) ∧ acc.length < sizeLine ∧ Nx (upd H4 D (.lst (acc ++ [y]))) else Nx H3) := by
  refine lc_tellT (β := V) (fun _ x b => x = b) (l.map fun w => if p w then some (V.str w) else none) hD ha (by rw [strL_len, List.length_map]) (by rw [List.length_map]; exact hz) (fun _ _ _ _ _ z => z) (fun i x o H hx ho s1 _ => ?_) fun H acc s1 hacc pp => ?_
  · obtain ⟨w, hw, rfl⟩ := strL_get hx
    have ho : o = if p w then some (V.str w) else none := by
      rw [List.getElem?_map, hw] at ho
      exact (Option.some.inj ho).symm
    intro N no yes
    refine hs i w H N hw s1 (fun H' pw s => no H' (by rw [ho, if_neg (by rw [pw]; decide)]) s) fun H' pw s => yes H' _ _ (by rw [ho, if_pos pw]) s rfl
  · have e : acc = strL (l.filter p) := by
      rw [pd_eq pp]
      clear pp hs hz ha hd
      induction l with
      | nil => rfl
      | cons w l ih =>
        rw [List.map_cons, List.filter_cons]
        by_cases pw : p w = true
        · rw [if_pos pw, if_pos pw]
          show V.str w :: _ = V.str w :: _
          exact congrArg _ ih
        · rw [if_neg pw, if_neg pw]
          exact ih
    subst e
    exact hd H s1 hacc
end
theorem atI_lastZ {α : Type} {xs : List α} {x : α} (h : xs.getLast? = some x) : atI xs (-1) = some x := by
  obtain ⟨pre, rfl⟩ : ∃ pre, xs = pre ++ [x] := List.getLast?_eq_some_iff.mp h
  unfold atI ixN
  rw [if_neg (by decide), if_pos (by simp; omega), List.length_append]
  show (pre ++ [x])[((-1 : Int) + ((pre.length + 1 : Nat) : Int)).toNat]? = some x
  rw [show ((-1 : Int) + ((pre.length + 1 : Nat) : Int)).toNat = pre.length by omega]
  simp
/-- a reference to a form -/
def FmAt (z : Pw) (C : Addr) (H : Hp) (v : V) (f : Fm) : Prop := ∃ a, v = .ref a ∧ FormZ z C H a f
theorem FmAt.mono {z : Pw} {C : Addr} {H H' : Hp} {v : V} {f : Fm} (h : FmAt z C H v f) (s : Same H H') : FmAt z C H' v f := let ⟨a, e, f⟩ := h; ⟨a, e, f.mono s⟩
theorem FmAt.lst {z : Pw} {C p : Addr} {H H' : Hp} {v : V} {f : Fm} {xs : List V} (h : FmAt z C H v f) (hp : H p = some (.lst xs)) (s : SB p H H') : FmAt z C H' v f := let ⟨a, e, f⟩ := h; ⟨a, e, f.lst hp s⟩
end CP

set_option Elab.async false
set_option linter.all false
set_option maxRecDepth 100000
set_option maxHeartbeats 4000000
set_option autoImplicit false
/-! forms worked out with a look at each that is made -/
namespace CP
open L2 PySem PyProof.Rows
def okF (f : Fm) : Bool := decide ((f.1.map (·.1)).Nodup) && decide (f.1.length ≤ 1000) && (f.1.all fun r => r.1.all letB && decide (r.1.length ≤ 1000) && decide (r.2.natAbs < 2 ^ 200)) && decide (0 < f.2) && decide (f.2 < 2 ^ 200)
theorem okF_ok {f : Fm} (h : okF f = true) : FOk f := by
  unfold okF at h
  simp only [Bool.and_eq_true, decide_eq_true_eq, List.all_eq_true] at h
  obtain ⟨⟨⟨⟨a, b⟩, c⟩, d⟩, e⟩ := h
  exact ⟨a, b, fun r hr => ⟨(c r hr).1.1, (c r hr).1.2⟩, fun r hr => (c r hr).2, d, e⟩
end CP

set_option Elab.async false
set_option linter.all false
set_option maxRecDepth 100000
set_option maxHeartbeats 4000000
set_option autoImplicit false
/-! {k: v for a in x for b in y for c in z}: dict comprehensions of three clauses -/
namespace CP
open L2 PySem PyProof.Rows PySem.Spec
section
variable {prog : Program} {w : World} {A : Around} {R : Result → Shared → Prop} {s : Shared} {kx vx t0 i0 t1 i1 t2 i2 : Expr} {c0 c1 c2 : List Expr} {scope : Scope} {pos : Pos} {it : Value} {D : Addr} {env : Env}
end
section
variable {X : Cx}
end
end CP

set_option Elab.async false
set_option linter.all false
set_option maxRecDepth 100000
set_option maxHeartbeats 4000000
set_option autoImplicit false
/-! a list of whatever items compared with the empty list -/
namespace CP
open L2 PySem PyProof.Rows
end CP

set_option Elab.async false
set_option linter.all false
set_option maxRecDepth 100000
set_option maxHeartbeats 4000000
set_option autoImplicit false
/-! zip of a tuple and a list -/
namespace CP
open PySem L2 PyProof.Rows
/-- what hands out items one at a time: the iterator at b over l -/
structure Feed (b l : Addr) (items : Array Value) (At : Heap → Nat → Prop) (Src : Heap → Prop) : Prop where
  goes : ∀ {h h' : Heap} {i : Nat}, At h i → (∀ o, h.get? b = some o → h'.get? b = some o) → At h' i
  stays : ∀ {h h' : Heap}, Src h → (∀ o, h.get? l = some o → h'.get? l = some o) → Src h'
  there : ∀ {h : Heap} {i : Nat}, At h i → b < h.objs.size
  next : ∀ {P : Program} {w : World} {A : Around} {E : Value → Shared → Prop} {s : Shared} {i : Nat} {x : Value} {Q : Value → Shared → Prop}, At s.heap i → Src s.heap → items[i]? = some x →
    (∀ h', At h' (i + 1) → Heap.SameBut b s.heap h' → Q x { s with heap := h' }) → wpAny (model P w) A (Builtin.SmallTypes.nextOf (.ref b)) Q E s
  last : ∀ {P : Program} {w : World} {A : Around} {E : Value → Shared → Prop} {s : Shared} {i : Nat} {Q : Value → Shared → Prop}, A.handled = none → At s.heap i → Src s.heap → items[i]? = none →
    (∀ h' e, Heap.ExtBut b s.heap h' → (∃ o, h'.get? e = some o ∧ o.cls = .type "StopIteration") → E (.ref e) { s with heap := h' }) → wpAny (model P w) A (Builtin.SmallTypes.nextOf (.ref b)) Q E s
section
variable {P : Program} {w : World} {A : Around} {E : Value → Shared → Prop} {s : Shared} {zz ti to b1 b2 l1 l2 : Addr} {xs ys : Array Value} {A1 A2 : Heap → Nat → Prop} {S1 S2 : Heap → Prop}
end
end CP

set_option Elab.async false
set_option linter.all false
set_option maxRecDepth 100000
set_option maxHeartbeats 4000000
set_option autoImplicit false
/-! zip of a tuple and a list: the call, the loop, the comprehension -/
namespace CP
open PySem PySem.Spec PyProof.Rows L2
section
variable {prog : Program} {w : World} {A : Around} {E : Value → Shared → Prop} {s : Shared}
end
section
variable {β : Type} {A B : Hp → List V → Prop} {xs zs : List V} {g : TG} {tt : TT} {te : TE} {vs : List Nat} {σ : L2.St} {H1 : Hp} {D : Addr} {Qd : Hp → Prop}
end
end CP

set_option Elab.async false
set_option linter.all false
set_option maxRecDepth 100000
set_option maxHeartbeats 4000000
set_option autoImplicit false
/-! loops and shapes -/
namespace CP
open L2 PySem PyProof.Rows
/-- a loop: name, low, high -/
abbrev Lp := Str × Fm × Fm
def LoopAt (z : Pw) (C : Addr) (H : Hp) (v : V) (l : Lp) : Prop := ∃ t a b, v = .ref t ∧ H t = some (.tup [.str l.1, .ref a, .ref b]) ∧ FormZ z C H a l.2.1 ∧ FormZ z C H b l.2.2
theorem LoopAt.mono {z : Pw} {C : Addr} {H H' : Hp} {v : V} {l : Lp} (h : LoopAt z C H v l) (s : Same H H') : LoopAt z C H' v l := by
  obtain ⟨t, a, b, e, h1, h2, h3⟩ := h
  exact ⟨t, a, b, e, s _ _ h1, h2.mono s, h3.mono s⟩
theorem loops_mono {z : Pw} {C : Addr} {H H' : Hp} {vs : List V} {ls : List Lp} (h : Paired (LoopAt z C H) vs ls) (s : Same H H') : Paired (LoopAt z C H') vs ls := pd_mono h fun _ _ w => w.mono s
def LoopsAt (z : Pw) (C : Addr) (H : Hp) (p : Addr) (ls : List Lp) : Prop := ∃ vs, H p = some (.lst vs) ∧ Paired (LoopAt z C H) vs ls
theorem LoopsAt.mono {z : Pw} {C : Addr} {H H' : Hp} {p : Addr} {ls : List Lp} (h : LoopsAt z C H p ls) (s : Same H H') : LoopsAt z C H' p ls := let ⟨vs, a, b⟩ := h; ⟨vs, s _ _ a, loops_mono b s⟩
def ShapeAt (z : Pw) (C S : Addr) (H : Hp) (o : Addr) (ls : List Lp) : Prop := ∃ dx p, H o = some (.ins S dx [("rows", .ref p)]) ∧ LoopsAt z C H p ls
theorem ShapeAt.mono {z : Pw} {C S : Addr} {H H' : Hp} {o : Addr} {ls : List Lp} (h : ShapeAt z C S H o ls) (s : Same H H') : ShapeAt z C S H' o ls := let ⟨dx, p, a, b⟩ := h; ⟨dx, p, s _ _ a, b.mono s⟩
def ShapeV (z : Pw) (C S : Addr) (H : Hp) (o : Addr) (vs : List V) (ls : List Lp) : Prop := ∃ dx p, H o = some (.ins S dx [("rows", .ref p)]) ∧ H p = some (.lst vs) ∧ Paired (LoopAt z C H) vs ls
theorem ShapeV.at_ {z : Pw} {C S : Addr} {H : Hp} {o : Addr} {vs : List V} {ls : List Lp} (h : ShapeV z C S H o vs ls) : ShapeAt z C S H o ls := let ⟨dx, p, a, b, c⟩ := h; ⟨dx, p, a, vs, b, c⟩
theorem ShapeV.mono {z : Pw} {C S : Addr} {H H' : Hp} {o : Addr} {vs : List V} {ls : List Lp} (h : ShapeV z C S H o vs ls) (s : Same H H') : ShapeV z C S H' o vs ls := let ⟨dx, p, a, b, c⟩ := h; ⟨dx, p, s _ _ a, s _ _ b, loops_mono c s⟩
/-- forms in a list -/
def FmsAt (z : Pw) (C : Addr) (H : Hp) (g : Addr) (fs : List Fm) : Prop := ∃ vs, H g = some (.lst vs) ∧ Paired (FmAt z C H) vs fs
theorem FmsAt.mono {z : Pw} {C : Addr} {H H' : Hp} {g : Addr} {fs : List Fm} (h : FmsAt z C H g fs) (s : Same H H') : FmsAt z C H' g fs := let ⟨vs, a, b⟩ := h; ⟨vs, s _ _ a, pd_mono b fun _ _ w => w.mono s⟩
theorem FmsAt.get {z : Pw} {C : Addr} {H : Hp} {g : Addr} {fs : List Fm} (h : FmsAt z C H g fs) {i : Nat} {f : Fm} (hf : fs[i]? = some f) : ∃ vs a, H g = some (.lst vs) ∧ vs[i]? = some (.ref a) ∧ FormZ z C H a f := by
  obtain ⟨vs, a, b⟩ := h
  obtain ⟨v, hv, c, rfl, hc⟩ := pd_get' b hf
  exact ⟨vs, c, a, hv, hc⟩
end CP

set_option Elab.async false
set_option linter.all false
set_option maxRecDepth 100000
set_option maxHeartbeats 4000000
set_option autoImplicit false
/-! len of an instance of a class with its own __len__ -/
namespace CP
open L2 PySem PyProof.Rows
section
variable {X : Cx} {CX : CXT} {k : Nat} {C f : Addr} {fd : FuncData} {ps : List Str} {sp : Sp} {E : XK}
end
end CP

set_option Elab.async false
set_option linter.all false
set_option maxRecDepth 100000
set_option maxHeartbeats 4000000
set_option autoImplicit false
/-! sorting by insertion, for the kernel -/
namespace CP
open L2 PySem PyProof.Rows
end CP

set_option Elab.async false
set_option linter.all false
set_option maxRecDepth 100000
set_option maxHeartbeats 4000000
set_option autoImplicit false
/-! dict(zip(keys, values)), the keys unlike -/
namespace CP
open L2 PySem PyProof.Rows
end CP

set_option Elab.async false
set_option linter.all false
set_option maxRecDepth 100000
set_option maxHeartbeats 4000000
set_option autoImplicit false
/-! texts put together sign by sign -/
namespace CP
open L2 PySem PyProof.Rows
def rAddSt : R2 := fun x y H Q => ∃ i j, x = .str i ∧ y = .str j ∧ i.length + j.length ≤ sizeLine ∧ Q (.str (i ++ j)) H
theorem op_addS {X : Cx} : OpR X (binaryOp .Add) rAddSt := op_add_str
theorem r_addSt {i j : Str} {H : Hp} {Q : VK} (h : i.length + j.length ≤ sizeLine) (q : Q (.str (i ++ j)) H) : rAddSt (.str i) (.str j) H Q := ⟨i, j, rfl, rfl, h, q⟩
theorem r_ixSS {z : Str} {i : Int} {c : Nat} {H : Hp} {Q : VK} (h : z.length ≤ sizeLine) (a : atI z.cps.toList i = some c) (q : Q (.str ⟨#[c]⟩) H) : rIxS (.str z) (.int i) H Q := ⟨z, i, c, rfl, rfl, h, a, q⟩
/-- a sign of the small letters -/
theorem small_at {i : Int} (h0 : 0 ≤ i) (h1 : i < 26) : ∃ c, atI smallT.cps.toList i = some c ∧ c ∈ smallT.cps.toList := by
  obtain ⟨n, rfl⟩ := Int.eq_ofNat_of_zero_le h0
  have l : smallT.cps.toList.length = 26 := by decide +kernel
  have hn : n < smallT.cps.toList.length := by omega
  exact ⟨smallT.cps.toList[n], atI_nat (List.getElem?_eq_getElem hn), List.getElem_mem hn⟩
/-- at most k small letters, at least j -/
def Wd (j k : Nat) (z : Str) : Prop := j ≤ z.cps.toList.length ∧ z.cps.toList.length ≤ k ∧ ∀ c ∈ z.cps.toList, c ∈ smallT.cps.toList
theorem Wd.add {j k : Nat} {z : Str} {c : Nat} (h : Wd j k z) (hc : c ∈ smallT.cps.toList) : Wd (j + 1) (k + 1) (z ++ (⟨#[c]⟩ : Str)) := by
  have e : (z ++ (⟨#[c]⟩ : Str)).cps.toList = z.cps.toList ++ [c] := by
    show (z.cps ++ #[c]).toList = _
    simp
  unfold Wd
  rw [e, List.length_append]
  refine ⟨by have := h.1; simp; omega, by have := h.2.1; simp; omega, fun d hd => ?_⟩
  rcases List.mem_append.mp hd with hd | hd
  · exact h.2.2 d hd
  · rw [List.mem_singleton.mp hd]; exact hc
theorem Wd.let {j k : Nat} {z : Str} (h : Wd j k z) (hj : 1 ≤ j) (hk : k ≤ 10) : letB z = true := by
  unfold letB
  obtain ⟨h1, h2, h3⟩ := h
  have l : z.length = z.cps.toList.length := by show z.cps.size = _; simp
  rw [decide_eq_true (by omega), Bool.true_and, List.all_eq_true]
  exact fun c hc => decide_eq_true (h3 c hc)
theorem Wd.ne {j k : Nat} {z y : Str} (h : Wd j k z) (hy : k < y.cps.toList.length) : z ≠ y := fun e => by
  have := h.2.1
  rw [e] at this
  omega
end CP

set_option Elab.async false
set_option linter.all false
set_option maxRecDepth 100000
set_option maxHeartbeats 4000000
set_option autoImplicit false
/-! sorted by a key whose calls may change what is tracked -/
namespace SrtK
open PySem PySem.W PySem.Calls PyProof.Rows
section
variable {prog : Program} {w : World} {A : Around} {E : Value → Shared → Prop} {s : Shared} {P : PySem.Fin → Shared → Prop} {b : Bool} {a kS : Addr} {vs : List Value} {kz : List PyData} {e1 : Nat}
end
end SrtK

set_option Elab.async false
set_option linter.all false
set_option maxRecDepth 100000
set_option maxHeartbeats 4000000
set_option autoImplicit false
/-! a lambda with one parameter, called while the frame that made it stands -/
namespace LamP
open PySem PySem.Spec PyProof.Rows L2 LamX
/-- one parameter, no other name of its own: captured ones and globals -/
structure LamQ (sc scope : Scope) (p : Str) : Prop where
  kind : scope.kind = .function
  co : scope.isCoroutine = false
  gen : scope.isGenerator = false
  par : scope.names.lookup p = some .local
  own : ∀ y ∈ scope.names, y.2 ≠ .cell ∧ (y.2 = .local → y.1 = p)
  free : ∀ y ∈ scope.names, y.2 = .free → sc.names.lookup y.1 = some .cell ∨ sc.names.lookup y.1 = some .free
def lamQB (sc scope : Scope) (p : Str) : Bool :=
  decide (scope.kind = .function) && !scope.isCoroutine && !scope.isGenerator && decide (scope.names.lookup p = some .local) && scope.names.all fun y => !decide (y.2 = .cell) && (!decide (y.2 = .local) || decide (y.1 = p)) && (!decide (y.2 = .free) || decide (sc.names.lookup y.1 = some .cell) || decide (sc.names.lookup y.1 = some .free))
theorem lamQ_by {sc scope : Scope} {p : Str} (h : lamQB sc scope p = true) : LamQ sc scope p := by
  unfold lamQB at h
  simp only [Bool.and_eq_true, Bool.or_eq_true, Bool.not_eq_true', decide_eq_true_eq, decide_eq_false_iff_not, List.all_eq_true] at h
  obtain ⟨⟨⟨⟨h1, h2⟩, h3⟩, h5⟩, h4⟩ := h
  refine ⟨h1, h2, h3, h5, fun y hy => ⟨(h4 y hy).1.1, fun e => ?_⟩, fun y hy e => ?_⟩
  · rcases (h4 y hy).1.2 with z | z
    · exact absurd e z
    · exact z
  · rcases (h4 y hy).2 with (z | z) | z
    · exact absurd e z
    · exact .inl z
    · exact .inr z
theorem LamQ.has {X : Cx} {scope : Scope} {p : Str} (L : LamQ X.env.scope scope p) (ok : X.Ok) : ∀ y ∈ scope.names, y.2 = .free → ∃ c, X.env.cells.lookup y.1 = some c := fun y hy e => by
  rcases L.free y hy e with k | k
  · exact ok.has _ (.inl k)
  · exact ok.has _ (.inr k)
/-- the names that the body knows, and what they hold -/
def lamV (N : List Str) (p : Str) (σ : L2.St) (v : V) : L2.St := (N.zip σ).map (fun q => if q.1 = p then none else q.2) ++ [some v]
def lamCxP (X : Cx) (A : Around) (outer : List Env) (s : Shared) (H : Hp) (E : XK) (scope : Scope) (f c' : Addr) (p : Str) : Cx := { lamCx X A outer s H E scope f c' with N := X.N ++ [p] }
section
variable {X : Cx} {pins : List (Addr × Obj)} {σ : L2.St} {H : Hp} {s : Shared}
theorem lam_startP {A : Around} {outer : List Env} {E : XK} {scope : Scope} {f c' : Addr} {h₁ : Heap} {tk : Nat} {p : Str} {v : V} {u : Value} (I : Inv X pins σ H s) (L : LamQ X.env.scope scope p) (e0 : Env0 X.prog X.w X.K X.mg X.base A outer s H) (hd : A.handled = none) (rv : RelV v u)
    (hns : h₁.Ns s.heap.objs.size fun y => ([(p, u)] : List (Str × Value)).reverse.lookup y) (kp : ∀ b o, s.heap.get? b = some o → h₁.get? b = some o) :
    Inv (lamCxP X A outer s H E scope f c' p) [] (lamV X.N p σ v) H { s with heap := h₁, toks := tk } := by
  have hfree := L.has I.ok
  have cm : ∀ {y c}, (cloFrom X.env.cells scope.names []).lookup y = some c → X.env.cells.lookup y = some c := fun {y c} e => by
    rcases cloFrom_mem (PySem.mem_of_lookup e) with hm | ⟨h1, h2⟩
    · cases hm
    · obtain ⟨c1, hc⟩ := hfree _ h1 rfl
      have hc : X.env.cells.lookup y = some c1 := hc
      have e2 : c = c1 := by
        rw [h2, hc] <;> rfl
      rw [e2]
      exact hc
  have look : ∀ {y}, scope.names.lookup y = some .free → ∃ c, (cloFrom X.env.cells scope.names []).lookup y = some c := fun {y} hl => by
    have hy : (y, NameKind.free) ∈ scope.names := PySem.mem_of_lookup hl
    exact mem_lookup (cloFrom_has (cells := X.env.cells) (acc := []) hy)
  have cellK : ∀ {c : Addr} {v : Option Value}, s.heap.IsCell c v → h₁.IsCell c v := fun {c v} ⟨o, ho, hd⟩ => ⟨o, kp _ _ ho, hd⟩
  have noA : ∀ b : Addr, b ∉ (lamCxP X A outer s H E scope f c' p).ex := fun b z => absurd (show b ∈ ([] : List Addr) from z) (by simp)
  have zl : (X.N.zip σ).length = X.N.length := by rw [List.length_zip, I.len, Nat.min_self]
  refine ⟨⟨e0.mod, L.kind, rfl, rfl, Nat.le_refl _, fun y z c e1 e2 => I.ok.inj y z c (cm e1) (cm e2), fun y hy => ?_, fun y c z _ => ?_, fun _ => hd, Around.frames_deeper e0.frames, .inr ⟨rfl, rfl⟩, fun b z => absurd z (noA b), e0.bs, e0.bsz, fun b _ _ => noA b,
      fun b z => absurd z (noA b), e0.funs, e0.frf⟩,
    rfl, e0.bare, Un.kept kp, ⟨_, hns, fun i y v' e1 e2 e3 => ?_⟩, fun y c e => ?_, e0.hok.fresh (Nat.le_refl _), fun y c e => ?_, fun q hq => absurd (show q ∈ ([] : List (Addr × Obj)) ++ [] from hq) (by simp), e0.hok.kept kp, ?_⟩
  · have hy : scope.names.lookup y = some .cell ∨ scope.names.lookup y = some .free := hy
    rcases hy with hy | hy
    · exact absurd rfl (L.own _ (PySem.mem_of_lookup hy)).1
    · exact look hy
  · have z : false = true := z
    cases z
  · have e1 : (X.N ++ [p])[i]? = some y := e1
    have e2 : ((X.N.zip σ).map (fun q => if q.1 = p then none else q.2) ++ [some v])[i]? = some (some v') := e2
    have e3 : Vis scope y := e3
    by_cases il : i < X.N.length
    · rw [List.getElem?_append_left il] at e1
      rw [List.getElem?_append_left (by rw [List.length_map, zl]; exact il), List.getElem?_map] at e2
      obtain ⟨q, hq, eq⟩ := Option.map_eq_some_iff.mp e2
      obtain ⟨q1, q2⟩ := List.getElem?_zip_eq_some.mp hq
      rw [e1] at q1
      have qy : y = q.1 := Option.some.inj q1
      have yp : ¬ q.1 = p := fun z => by rw [if_pos z] at eq; cases eq
      rw [if_neg yp] at eq
      rw [eq] at q2
      rw [← qy] at yp
      rcases e3 with k | k | k
      · exact absurd ((L.own _ (PySem.mem_of_lookup k)).2 rfl) yp
      · exact absurd rfl (L.own _ (PySem.mem_of_lookup k)).1
      · obtain ⟨m, hn, hl⟩ := I.loc
        have hvis : Vis X.env.scope y := (L.free _ (PySem.mem_of_lookup k) rfl).elim (fun k => .inr (.inl k)) (fun k => .inr (.inr k))
        obtain ⟨w', r, q⟩ := hl i y v' e1 q2 hvis
        obtain ⟨c2, h2⟩ := look k
        refine ⟨w', r, .inr ⟨.inr k, c2, h2, ?_⟩⟩
        have c1 := cm h2
        rcases q with ⟨k', _⟩ | ⟨_, c3, e', z⟩
        · have k' : X.env.scope.names.lookup y = some .local := k'
          rcases L.free _ (PySem.mem_of_lookup k) rfl with k2 | k2 <;> rw [show X.env.scope.names.lookup y = _ from k2] at k' <;> cases k'
        · rw [c1] at e'
          cases e'
          exact cellK z
    · have il2 : i = X.N.length := by
        have := (List.getElem?_eq_some_iff.mp e1).1
        rw [List.length_append, List.length_singleton] at this
        omega
      subst il2
      rw [List.getElem?_append_right (Nat.le_refl _), Nat.sub_self] at e1
      have ey : p = y := by simpa using e1
      subst ey
      rw [List.getElem?_append_right (by rw [List.length_map, zl]; exact Nat.le_refl _), List.length_map, zl, Nat.sub_self] at e2
      have ev : v = v' := by simpa using e2
      subst ev
      exact ⟨u, rv, .inl ⟨L.par, by simp⟩⟩
  · obtain ⟨w', z⟩ := I.cell y c (cm e)
    exact ⟨w', cellK z⟩
  · exact I.freeC y c (cm e)
  · show ((X.N.zip σ).map (fun q => if q.1 = p then none else q.2) ++ [some v]).length = (X.N ++ [p]).length
    rw [List.length_append, List.length_append, List.length_map, zl]
    rfl
/-- f(v), f a lambda that this frame made -/
theorem lam_call {A : Around} {f c' : Addr} {pm ctv : Value} {params : Arguments} {body : Expr} {scope : Scope} {k : Nat} {p : Str} {E : XK} {tb : TE} {v : V} {u : Value} {Q : VK} {F : Value → Shared → Prop}
    (I : Inv X pins σ H s) (L : LamQ X.env.scope scope p) (e0 : Env0 X.prog X.w X.K X.mg X.base A X.stack s H) (hr : Room (k + 1) A) (hf : s.heap.get? f = some (PySem.W.kla_obj "<lambda>" (X.env.qual ++ "<lambda>") params body scope (cloFrom X.env.cells scope.names []) pm c' ctv))
    (hc : H c' = some (CodeO c' (X.env.qual ++ "<lambda>"))) (hbind : bindArgs (PySem.W.kla_fn "<lambda>" (X.env.qual ++ "<lambda>") params body scope (cloFrom X.env.cells scope.names []) pm (.ref c') ctv) ⟨[u], []⟩ = pure [(p, u)]) (rv : RelV v u)
    (hbody : PE (lamCxP X A X.stack s H E scope f c' p) body tb) (q : tb (lamV X.N p σ v) H Q) (hx : ∀ e s', L2.CX X.prog X.w X.stack H s E e s' → F e s') :
    wpAny (model X.prog X.w) A (call (.ref f) [u]) (EP X pins σ Q) F s := by
  obtain ⟨⟨oc, vs, t, hoc, hdc, hvc⟩, _, _⟩ := I.hok c' _ hc
  have rc : codeAny (model X.prog X.w) A (.call (.ref f) ⟨[u], []⟩) (CR (L2.CX X.prog X.w) X.stack X.prog X.w H s Q E) s := by
    refine PySem.W.kla_callFunE hr.depth hf rfl L.co L.gen rfl ⟨c', oc, vs, t, rfl, hoc, hdc, hvc⟩ ?_
    rw [hbind]
    refine wpAny_pure (wpAny_newFunctionEnv (fun y hy => (L.own y hy).1) (fun y hy => ?_) (fun h₁ hns hsb => ⟨I.nolimit.fresh _ hsb, ?_⟩) L.kind)
    · have e : y = (p, u) := List.mem_singleton.mp hy
      rw [e]
      exact L.par
    show codeAny _ _ (.expr body (lamEnv X scope s.heap.objs.size f c')) _ _
    have kp : ∀ b o, s.heap.get? b = some o → h₁.get? b = some o := fun b o e => hsb.extBut b o (Nat.ne_of_lt (Heap.lt_size e)) (Heap.get?_push_of_some _ e)
    have J : Inv (lamCxP X A X.stack s H E scope f c' p) [] (lamV X.N p σ v) H { s with heap := h₁, toks := s.toks + ([(p, u)] : List (Str × Value)).length } := lam_startP I L e0 hr.hd rv hns kp
    refine PySem.W.kla_codeExpr (wpAny_mono (hbody.run [] _ _ H Q J q) (fun v s' hq => ?_) fun e s' hq => hq)
    obtain ⟨w', H', J', rv, q⟩ := hq
    exact ⟨w', H', J'.os, J'.bare, J'.base, J'.hok, rv, q⟩
  refine wpAny_call (codeAny_mono rc fun r s' hq => ?_)
  cases r with
  | error e => exact hx e s' hq
  | ok fl =>
    cases fl with
    | ret u => exact I.after hq
    | next => exact False.elim hq
    | brk => exact False.elim hq
    | cont => exact False.elim hq
end
end LamP

set_option Elab.async false
set_option linter.all false
set_option maxRecDepth 100000
set_option maxHeartbeats 4000000
set_option autoImplicit false
/-! sorted(xs, key=lambda p: ..), whole keys -/
namespace LamP
open PySem PySem.Spec PySem.W PyProof.Rows L2 LamX
/-- all that was known is known still -/
abbrev Kp (H H' : Hp) : Prop := ∀ b o, H b = some o → H' b = some o
section
variable {X : Cx}
end
end LamP

set_option Elab.async false
set_option linter.all false
set_option maxRecDepth 100000
set_option maxHeartbeats 4000000
set_option autoImplicit false
/-! the end of a law where one def makes a lambda -/
namespace LamP
open PySem PySem.Spec PyProof.Rows L2 LamX
end LamP
namespace LamP
open PySem PySem.Spec PyProof.Rows L2 LamX
/-- the def at f has its code object at c -/
def CodeIs (K : PySem.W.Frag) (f c : Addr) : Prop := ∀ o fd, K.lookup f = some o → o.data = .func fd → fd.code = .ref c
section
variable {P : Program} {w : World} {K : PySem.W.Frag} {mg : Str → Option Value} {base : Heap}
theorem okC {x qual : Str} {st : Stmt} {f c : Addr} {fd : FuncData} {N ps : List Str} {k : Nat} {sp : Sp} (F : Fun K x qual st f fd) (hc : CodeIs K f c) (S : FnScope N ps (defScope st)) (len : ∀ vs H Q E, sp vs H Q E → vs.length = ps.length)
    (hbody : ∀ (A : Around) (outer : List Env) (s : Shared) (H : Hp) (vs : List V) (Q : VK) (E : XK), Room k (A.deeper (envOfC qual (defScope st) s.heap.objs.size f (.ref c))) → sp vs H Q E →
      ∃ t, PSs (cxOf C8.CX0 P w K mg base N qual (defScope st) f (.ref c) A outer s H E).nox (defBody st) t ∧ t { nx := fun _ H' => Q .non H', rt := Q } (start N vs) H) : FnOk P w K mg base C8.CX0 (k + 1) f fd ps sp := by
  obtain ⟨oc, od, kV, doc, pm, an, cdv, ct, osl, rfl, lk, hcd⟩ := F.ex
  have e : cdv = .ref c := hc _ _ lk rfl
  subst e
  refine fn_of lk hcd S len fun A outer s H vs Q E hr hsp => ?_
  obtain ⟨t, h, q⟩ := hbody A outer s H vs Q E hr hsp
  exact ⟨t, h.nox, q⟩
end
end LamP

set_option Elab.async false
set_option linter.all false
set_option maxRecDepth 100000
set_option maxHeartbeats 4000000
set_option autoImplicit false
/-! the end of a law where one method makes a lambda -/
namespace LamP
open PySem PySem.Spec PyProof.Rows L2 LamX
/-- the code object and the table of the def at f -/
def tabFn (K : PySem.W.Frag) (f : Addr) : Option (Addr × Addr) := match K.lookup f with
  | some ⟨_, _, .func fd, _⟩ => (match fd.code with
    | .ref c => (match K.lookup c with
      | some ⟨_, _, .fields vs, _⟩ => (match (vs[11]? : Option Value) with
        | some (.ref P) => some (c, P)
        | _ => none)
      | _ => none)
    | _ => none)
  | _ => none
theorem code_isF {K : PySem.W.Frag} {f c P : Addr} (ht : tabFn K f = some (c, P)) : CodeIs K f c := by
  intro o fd ho hd
  unfold tabFn at ht
  simp only [ho] at ht
  obtain ⟨oc, od, dt, osl⟩ := o
  simp only at hd
  subst hd
  simp only at ht
  split at ht
  · rename_i c2 hc2
    split at ht
    · split at ht
      · injection ht with h
        injection h with h1 h2
        rw [← h1]
        exact hc2
      · cases ht
    · cases ht
  · cases ht
end LamP

set_option Elab.async false
set_option linter.all false
set_option maxRecDepth 100000
set_option maxHeartbeats 4000000
set_option autoImplicit false
/-! sorted(d, key=lambda p: ..) of a dict whose keys are tuples, the lambda's values read as data -/
namespace SrtZ
open PySem PySem.W PySem.Calls PyProof.Rows
section
variable {prog : Program} {w : World} {d : Addr} {es : Array DictEntry} {ep : Nat}
theorem walks_raw {A : Around} (hh : A.handled = none) (I : Addr) (hne : d ≠ I) : Walks prog w A I [I, d] [I] es.size (fun i v => ∃ e, es[i]? = some e ∧ v = e.key) (fun i h => h.IsKeyIter I d i es.size ep ∧ h.DictRaw d es ep) where
  sub := fun b hb => by simp at hb; simp [hb]
  frame := fun _ _ _ st hk => ⟨let ⟨o, e, r⟩ := st.1; ⟨o, hk I (by simp) o e, r⟩, let ⟨o, e, r⟩ := st.2; ⟨o, hk d (by simp) o e, r⟩⟩
  item := fun i s Q E hi st hQ => by
    obtain ⟨o, h1, h2, h3⟩ := id st.2
    refine L2.next_key_item st.1 h1 h3 rfl (Array.getElem?_eq_getElem hi) fun h' hit' hs' => ?_
    exact hQ _ h' s.toks ⟨_, Array.getElem?_eq_getElem hi, rfl⟩ ⟨hit', ⟨o, (hs'.2 d hne).trans h1, h2, h3⟩⟩ fun b o hb e => (hs'.2 b fun z => hb (by simp [z])).trans e
  done := fun s Q E st hQ => by
    obtain ⟨o, h1, h2, h3⟩ := id st.2
    exact L2.next_key_end hh st.1 h1 h3 rfl (Nat.le_refl _) fun h' he' => hQ h' s.toks fun b o hb e => he' b o (fun h => hb (by simp [h])) e
  self := fun _ _ _ _ st hQ => wpAny_pyIter_keyiter st.1 hQ
theorem src_raw (lo : (d == sysModules) = false) : KdlSrc prog w "dict" d d es.size (fun i v => ∃ e, es[i]? = some e ∧ v = e.key) (fun h => h.DictRaw d es ep) where
  type := fun _ ⟨o, h1, h2, _⟩ => ⟨o, h1, h2.1⟩
  there := fun _ ⟨o, h1, _⟩ => ⟨Heap.lt_size h1, Heap.lt_size h1⟩
  keep := fun _ _ ⟨o, h1, h2⟩ hk => ⟨o, hk d (.inl rfl) o h1, h2⟩
  notList := by decide
  notTuple := by decide
  hint := fun _ _ s _ ⟨o, h1, h2, _⟩ hq => kdl_hint_dict (show s.TypeIs (.ref d) "dict" from ⟨o, h1, h2.1⟩) hq
  iter := fun A s hh ⟨o, h1, h2, h3⟩ => ⟨_, _, fun _ _ hq => L2.iter_keys lo h1 h2 h3 hq, walks_raw hh _ (Nat.ne_of_lt (Heap.lt_size h1)), ⟨⟨_, Heap.get?_push_size _ rfl, rfl, rfl⟩, ⟨o, Heap.get?_push_of_some _ h1, h2, h3⟩⟩⟩
end
section
variable {prog : Program} {w : World} {A : Around} {E : Value → Shared → Prop} {s : Shared} {T : String} {r d : Addr} {n : Nat} {P : Nat → Value → Prop} {OK : Heap → Prop}
theorem sorted_of_src {kw : List (Str × Value)} {Q : Value → Shared → Prop} (K : KdlSrc prog w T r d n P OK) (hh : A.handled = none) (hok : OK s.heap) (hn : n ≤ sizeLine) (ha1 : argsOk "sorted" ⟨[.ref r], kw⟩) (ha2 : ∀ x, argsOk "list.sort" ⟨[.ref x], kw⟩)
    (body : ∀ (h' : Heap) (tk : Nat) (vs : List Value), (∀ b o, s.heap.get? b = some o → h'.get? b = some o) → vs.length = n → (∀ (j : Nat) (v : Value), vs[j]? = some v → P j v) → ∀ E' : Value → Shared → Prop,
      wpAny (model prog w) A.in1.in1 (Builtin.«list.sort» ⟨[.ref h'.objs.size], kw⟩) (fun f s' => f = .done (.ret .none) ∧ Q (.ref h'.objs.size) s') E' { s with heap := h'.push (seqObj "list" vs.toArray 0), toks := tk }) :
    wpAny (model prog w) A (call (.builtin "sorted") [.ref r] kw) Q E s := by
  refine call_function_entry_kw kind_sorted plain_sorted entry_sorted ha1 ?_
  unfold Builtin.«sorted»
  refine wpAny_bind (m := checkCount "sorted" 1 1 _) (wpAny_pure ?_)
  refine wpAny_bind (kdu_collect (A := A.in1) K hh hok hn fun h' tk acc hk hacc => ?_)
  have hl : acc.toList.length = n := by rw [Array.length_toList]; exact hacc.1
  refine wpAny_bind (wpAny_newList ?_ (by rw [hl]; exact hn))
  have hoL : (h'.push (seqObj "list" acc.toList.toArray 0)).get? h'.objs.size = some (seqObj "list" acc.toList.toArray 0) := Heap.get?_push_size _ rfl
  show wpAny _ _ _ _ _ { s with heap := h'.push (seqObj "list" acc.toList.toArray 0), toks := tk }
  refine wpAny_bind (wpAny_holding (wpAny_call_entry_kw slot_list_sort ⟨_, hoL, rfl⟩ entry_list_sort ?body (ha2 _)))
  case body =>
    show wpAny (model prog w) A.in1.in1 (Builtin.«list.sort» ⟨[.ref h'.objs.size], kw⟩) _ _ _
    refine wpAny_mono (body h' tk acc.toList hk hl (fun j v e => hacc.2 j v (by rw [← Array.getElem?_toList]; exact e)) _) (fun f s' hf => ?_) fun _ _ e => e
    obtain ⟨rfl, hq⟩ := hf
    exact ⟨_, rfl, wpAny_pure ⟨_, rfl, hq⟩⟩
end
section
variable {prog : Program} {w : World} {A : Around} {E : Value → Shared → Prop} {s : Shared} {P : PySem.Fin → Shared → Prop} {b : Bool} {a kS : Addr} {vs : List Value} {kz : List PyData} {e1 : Nat}
theorem keyS_rest {f : Value} {St : Nat → List Value → Shared → Prop} (hka : kS ≠ a) (h0 : St 0 [] s) (nk : s.heap.get? kS = some (seqObj "list" #[] 0)) (na : s.heap.get? a = some (seqObj "list" #[] e1))
    (hlen : kz.length = vs.length) (hZ : vs.length ≤ sizeLine) (hal : AllAlike kz) (hsk : Sortable kz) (hu : ∀ d, d ∈ kz → A.units + d.depth < cLine)
    (turn : ∀ (i : Nat) (v : Value) (s' : Shared) (kL : List Value) (e : Nat), vs[i]? = some v → St i kL s' → kL.length = i → s'.heap.get? kS = some (seqObj "list" kL.toArray e) → s'.heap.get? a = some (seqObj "list" #[] e1) →
      wpAny (model prog w) A (call f [v]) (fun r s'' => s''.heap.get? kS = some (seqObj "list" kL.toArray e) ∧ s''.heap.get? a = some (seqObj "list" #[] e1) ∧ ∀ h', Heap.SameBut kS s''.heap h' → St (i + 1) (kL ++ [r]) { s'' with heap := h' }) (fun _ _ => False) s')
    (fin : ∀ (kL : List Value) (s' : Shared), St vs.length kL s' → EachIs (fun v k => ∃ as, Reads s'.heap v k as) kL kz)
    (h : ∀ (kL : List Value) (s' : Shared) (h' : Heap) (tk : Nat) (out : List Value) (c : Nat), St vs.length kL s' → (∀ b o, b ≠ a → b ≠ kS → s'.heap.get? b = some o → h'.get? b = some o) → h'.get? a = some (seqObj "list" (List.toArray out) c) → KeyedOut b kz vs out → P (.done (.ret .none)) { s' with heap := h', toks := tk }) :
    wpAny (model prog w) A (ksk_rest a f b vs.toArray e1 (.ref kS)) P E s := by
  unfold ksk_rest
  refine wpAny_bind (wpAny_rule ?_)
  first
    | rw [List.forIn_toArray]
    | (rw [← Array.forIn_toList]; simp only [List.toList_toArray])
    | rw [← Array.forIn_toList]
  refine wpAny_bind (ksk_fold (fun i s' => ∃ (kL : List Value) (e : Nat), St i kL s' ∧ kL.length = i ∧ s'.heap.get? kS = some (seqObj "list" kL.toArray e) ∧ s'.heap.get? a = some (seqObj "list" #[] e1)) vs 0 s
    ⟨[], 0, h0, rfl, nk, na⟩ ?step ?done)
  case step =>
    rintro j x s' hx ⟨kL, e, st, kl, nk', na'⟩
    simp only [Nat.zero_add] at kl st ⊢
    have hj : j < vs.length := (List.getElem?_eq_some_iff.mp hx).1
    refine wpAny_bind (wpAny_attempt (wpAny_mono (turn j x s' kL e hx st kl nk' na') (fun v s'' he => ?_) fun _ _ hF => hF.elim))
    obtain ⟨nk2, na2, st2⟩ := he
    try dsimp only
    have s1 := Heap.SameBut.update s''.heap kS (Obj.mapSeq (·.push v))
    obtain ⟨c2, hc2⟩ : ∃ c2, (s''.heap.update kS (Obj.mapSeq (·.push v))).get? kS = some (seqObj "list" (kL.toArray.push v) c2) := ⟨_, get?_update_seq nk2 (·.push v)⟩
    have ea : kL.toArray.push v = (kL ++ [v]).toArray := by simp
    have z1 : kL.toArray.size = j := by rw [List.size_toArray, kl]
    refine wpAny_bind (listUpdate_at nk2 rfl ?_ (by rw [z1]; omega) (Nat.le_trans (Nat.le_of_eq (Array.size_push ..)) (by rw [z1]; omega)))
    refine wpAny_pure ⟨rfl, kL ++ [v], c2, st2 _ s1, by rw [List.length_append, kl]; rfl, by rw [← ea]; exact hc2, (s1.2 a hka.symm).trans na2⟩
  case done =>
    rintro s' ⟨kL, e, st, kl, nk', na'⟩
    simp only [Nat.zero_add] at st kl
    have hk' := fin kL s' st
    try dsimp only
    refine wpAny_bind (listItems_at nk' rfl ?_)
    let Hh : L2.Hp := fun b => if b = kS then some (.lst []) else none
    have hh : (L2.hidT s'.heap Hh).get? kS = none := by
      cases q : (L2.hidT s'.heap Hh).get? kS with
      | none => rfl
      | some o =>
        have := (L2.of_hidT q).2
        simp [Hh] at this
    have kp : KeepsBut a (L2.hidT s'.heap Hh) s'.heap := fun c o _ q => (L2.of_hidT q).1
    refine keyH_end (κ := dataKind s'.heap kz) (h₁ := L2.hidT s'.heap Hh) kp hh nk' na' hka (SortsAt.data (s := s') (by rw [List.toList_toArray]; exact hk') hal hsk hu) (by rw [List.size_toArray, kl]) hZ fun h3 tk3 c k3 n3 => ?_
    exact h kL s' h3 tk3 _ c st (fun c o h1 h2 q => k3 c o h1 (L2.hidT_get q (by simp [Hh, h2]))) n3 ⟨s'.heap, kL, hal, by rw [List.toList_toArray], hk'⟩
theorem keyS_tree {f : Value} {n : Nat} {St : Addr → Nat → Nat → List Value → Shared → Prop} (ho : s.heap.get? a = some (seqObj "list" vs.toArray n))
    (hlen : kz.length = vs.length) (hZ : vs.length ≤ sizeLine) (hal : AllAlike kz) (hsk : Sortable kz) (hu : ∀ d, d ∈ kz → A.units + d.depth < cLine)
    (begin_ : ∀ (h' : Heap) (e1 : Nat) (kS : Addr), s.heap.objs.size ≤ kS → (∀ b o, b ≠ a → s.heap.get? b = some o → h'.get? b = some o) → h'.get? kS = some (seqObj "list" #[] 0) → h'.get? a = some (seqObj "list" #[] e1) → St kS e1 0 [] { s with heap := h' })
    (turn : ∀ (kS : Addr) (e1 : Nat), s.heap.objs.size ≤ kS → ∀ (i : Nat) (v : Value) (s' : Shared) (kL : List Value) (e : Nat), vs[i]? = some v → St kS e1 i kL s' → kL.length = i → s'.heap.get? kS = some (seqObj "list" kL.toArray e) → s'.heap.get? a = some (seqObj "list" #[] e1) →
      wpAny (model prog w) A (call f [v]) (fun r s'' => s''.heap.get? kS = some (seqObj "list" kL.toArray e) ∧ s''.heap.get? a = some (seqObj "list" #[] e1) ∧ ∀ h', Heap.SameBut kS s''.heap h' → St kS e1 (i + 1) (kL ++ [r]) { s'' with heap := h' }) (fun _ _ => False) s')
    (fin : ∀ (kS : Addr) (e1 : Nat) (kL : List Value) (s' : Shared), St kS e1 vs.length kL s' → EachIs (fun v k => ∃ as, Reads s'.heap v k as) kL kz)
    (h : ∀ (kS : Addr) (e1 : Nat) (kL : List Value) (s' : Shared) (h' : Heap) (tk : Nat) (out : List Value) (c : Nat), s.heap.objs.size ≤ kS → St kS e1 vs.length kL s' → (∀ b o, b ≠ a → b ≠ kS → s'.heap.get? b = some o → h'.get? b = some o) → h'.get? a = some (seqObj "list" (List.toArray out) c) → KeyedOut b kz vs out → P (.done (.ret .none)) { s' with heap := h', toks := tk }) :
    wpAny (model prog w) A (ksk_tree a f b) P E s := by
  have ha : a < s.heap.objs.size := Heap.lt_size ho
  obtain ⟨e1, ho1⟩ : ∃ e1, (s.heap.update a (Obj.mapSeq fun _ => (#[] : Array Value))).get? a = some (seqObj "list" #[] e1) := ⟨_, get?_update_seq ho fun _ => #[]⟩
  have hkS : ((s.heap.update a (Obj.mapSeq fun _ => (#[] : Array Value))).push (seqObj "tuple" vs.toArray 0)).objs.size = s.heap.objs.size + 1 := by rw [size_push', Heap.size_update]
  unfold ksk_tree
  refine wpAny_bind (listItems_at ho rfl ?_)
  refine wpAny_bind (listUpdate_at ho rfl ?_ (by rw [List.size_toArray]; exact hZ) (Nat.zero_le _))
  refine wpAny_bind (seqEpoch_at ho1 rfl ?_)
  refine wpAny_bind (wpAny_newTuple ?_ (by show vs.length ≤ _; exact hZ))
  refine wpAny_bind (wpAny_newList ?_ (Nat.zero_le _))
  refine wpAny_holding ?_
  have kp : KeepsBut a s.heap (sortingHeap s.heap a vs) := fun b o hb q => sortingHeap_old hb q
  have le : s.heap.objs.size ≤ ((s.heap.update a (Obj.mapSeq fun _ => (#[] : Array Value))).push (seqObj "tuple" vs.toArray 0)).objs.size := by rw [hkS]; exact Nat.le_succ _
  have nk : (((s.heap.update a (Obj.mapSeq fun _ => (#[] : Array Value))).push (seqObj "tuple" vs.toArray 0)).push (seqObj "list" #[] 0)).get? ((s.heap.update a (Obj.mapSeq fun _ => (#[] : Array Value))).push (seqObj "tuple" vs.toArray 0)).objs.size = some (seqObj "list" #[] 0) := Heap.get?_push_size _ rfl
  have na := Heap.get?_push_of_some (seqObj "list" #[] 0) (Heap.get?_push_of_some (seqObj "tuple" vs.toArray 0) ho1)
  refine keyS_rest (kz := kz) (s := { s with heap := ((s.heap.update a (Obj.mapSeq fun _ => (#[] : Array Value))).push (seqObj "tuple" vs.toArray 0)).push (seqObj "list" #[] 0) }) (kS := ((s.heap.update a (Obj.mapSeq fun _ => (#[] : Array Value))).push (seqObj "tuple" vs.toArray 0)).objs.size)
    (St := St _ e1) (by rw [hkS]; exact Nat.ne_of_gt (Nat.lt_succ_of_lt ha)) (begin_ _ e1 _ le (fun b o hb q => kp b o hb q) nk na) nk na hlen hZ hal hsk hu (turn _ e1 le) (fin _ e1) fun kL s' h' tk out c => h _ e1 kL s' h' tk out c le
end
end SrtZ
namespace CP
open PySem PySem.Spec PySem.W PyProof.Rows L2 LamX LamP
/-- the key of a product: its length and itself -/
def encP (p : List Str) : PyData := .tuple [.int p.length, .tuple (p.map .str)]
theorem alike_strs : ∀ xs ys : List Str, alikeAll (xs.map PyData.str) (ys.map PyData.str) = true
  | [], _ => by simp [alikeAll]
  | _ :: _, [] => by simp [alikeAll]
  | x :: xs, y :: ys => by
    rw [List.map_cons, List.map_cons]
    simp only [alikeAll, alike, Bool.true_and]
    exact alike_strs xs ys
theorem alike_enc (p q : List Str) : alike (encP p) (encP q) = true := by
  unfold encP
  simp only [alike, alikeAll, Bool.and_true, Bool.true_and]
  exact alike_strs p q
theorem depth_strs : ∀ xs : List Str, PyData.depthAll (xs.map PyData.str) = 0
  | [] => by simp [PyData.depthAll]
  | x :: xs => by
    rw [List.map_cons]
    simp only [PyData.depthAll, PyData.depth]
    rw [depth_strs xs]
    rfl
theorem depth_enc (p : List Str) : (encP p).depth ≤ 3 := by
  unfold encP
  simp only [PyData.depth, PyData.depthAll]
  rw [depth_strs]
  decide
/-- a product is not behind another one: fewer letters, or as many and earlier -/
def leP (p q : List Str) : Bool := dataLe false encP p q
def EncAt (H : Hp) (v : V) (k : List Str) : Prop := ∃ t q, v = .ref t ∧ H t = some (.tup [.int k.length, .ref q]) ∧ TupZ H q (strL k)
theorem EncAt.mono {H H' : Hp} {v : V} {k : List Str} (h : EncAt H v k) (s : Same H H') : EncAt H' v k := let ⟨t, q, e, a, b⟩ := h; ⟨t, q, e, s _ _ a, b.mono s⟩
theorem EncAt.dp {K : PySem.W.Frag} {H : Hp} {v : V} {k : List Str} (h : EncAt H v k) : Dp K H v (encP k) := by
  obtain ⟨t, q, rfl, a, b⟩ := h
  exact .tup (.of a) (.cons (.int _) (.cons (.tup b.sq (dpA_strs k)) .nil))
def tSortLamZ (z : Pw) (T : List (Addr × Str)) (N : List Str) (p : Str) (te tb : TE) : TE := fun σ H Q => te σ H fun x H1 => ∃ d, x = .ref d ∧ Tabs T H1 ∧ ∀ H2, ExtN H1 H2 → Tabs T H2 → ∃ (kvs : List (List Key × V)) (ps : List (List Str)), DZ z H2 d kvs ∧ kvs.map (·.1) = ps.map keyT ∧
  (∀ (q : Addr) (k : List Str) (H : Hp), k ∈ ps → TupZ H q (strL k) → Kp H2 H → tb (lamV N p σ (.ref q)) H fun v H' => (∃ t, v = .ref t ∧ H' t = some (.tup [.int k.length, .ref q])) ∧ Kp H H') ∧
  ∀ l H3 vs, Kp H2 H3 → H3 l = none → Paired (fun v k => ∃ q, v = .ref q ∧ TupZ H3 q (strL k)) vs (ps.mergeSort leP) → Q (.ref l) (upd H3 l (.lst vs))
theorem each_atL {α β : Type} {R : α → β → Prop} : ∀ {xs : List α} {ys : List β}, xs.length = ys.length → (∀ (i : Nat) (x : α) (y : β), xs[i]? = some x → ys[i]? = some y → R x y) → EachIs R xs ys
  | [], [], _, _ => .nil
  | x :: xs, y :: ys, l, h => .cons (h 0 x y rfl rfl) (each_atL (by simpa using l) fun i a b ha hb => h (i + 1) a b (by simpa using ha) (by simpa using hb))
section
variable {X : Cx}
theorem pe_sortLamZ {T : List (Addr × Str)} {c P : Addr} {k : Nat} {e : Expr} {te tb : TE} {params : Arguments} {body : Expr} {scope : Scope} {p : Str} {np lpos kpos pos : Pos} (hg : Gl X "sorted") (hm : X.mg "sorted" = none) (he : PE X e te)
    (TB : TabB X.base X.mg c P) (hcode : X.env.code = .ref c) (hmT : (P, X.env.qual ++ "<lambda>") ∈ T) (hu : ∀ p ∈ T, p.1 = P → p.2 = X.env.qual ++ "<lambda>") (hr : Room (k + 3) X.A) (L : LamQ X.env.scope scope p) (hdef : defaultsOf params X.env = ([], []))
    (hbind : ∀ (q : Str) (cl : List (Str × Addr)) (pm cv ctv u : Value), bindArgs (PySem.W.kla_fn "<lambda>" q params body scope cl pm cv ctv) ⟨[u], []⟩ = pure [(p, u)])
    (hbody : ∀ (A : Around) (outer : List Env) (s : Shared) (H : Hp) (f c' : Addr), Room k (A.deeper (lamEnv X scope s.heap.objs.size f c')) → PE (lamCxP X A outer s H (fun _ _ _ => False) scope f c' p) body tb)
    (he1 : backTo pos (starEach [e] X.env) = (false, eval e X.env) :: backTo pos (starEach [] X.env) := by rfl) (hpl : (backTo pos (starEach [e] X.env)).any (·.1) = false := by rfl) (hse : starEach [e] X.env = (false, eval e X.env) :: starEach [] X.env := by rfl) :
    PE X (.Call (.Name "sorted" np) [e] [⟨some "key", .Lambda params body scope lpos, kpos⟩] pos) (tSortLamZ (X.prog, X.w) T X.N p te tb) := by
  refine ⟨fun pins s σ H Q I h => ?_⟩
  refine wpAny_Call_Name_kw (ld_blt I hg hm boot_sorted ?_)
  refine PyProof.Rows.callWith_kw ?main he1 hpl (by rfl) (by rfl)
  rw [he1]
  refine Calls.spliced_cons (thn (he.run pins s σ H _ I h) fun u s1 ⟨x, H1, I1, r1, d, ex, hT, q1⟩ => Calls.spliced_nil ?_)
  subst ex
  obtain rfl : u = Value.ref d := r1
  show wpAny _ _ (evalAll ((do let v ← eval (.Lambda params body scope lpos) X.env; standAt pos; pure v) :: [])) _ _ s1
  refine wpAny_evalAll_cons (wpAny_bind (lam_make2 I1 TB hcode hmT hu hT hdef (L.has I1.ok) fun f c' pm ctv H2 s2 I2 eN T2 hf hfn hfr hco => wpAny_bind (wpAny_standAt (wpAny_pure (wpAny_evalAll_nil ?_)))))
  obtain ⟨kvs, ps, ⟨od, hz⟩, kp, key, q⟩ := q1 H2 eN T2
  show wpAny _ _ (call (.builtin "sorted") [.ref d] [(Str.ofString "key", .ref f)]) _ _ s2
  obtain ⟨es, ep, dat, sys, raw, sz, ent⟩ := dz_ents I2 hz
  have few := hz.few
  have kl : kvs.length = ps.length := by
    have := congrArg List.length kp
    rwa [List.length_map, List.length_map] at this
  have fL : f ≠ X.env.locals := fun z => by
    obtain ⟨m, ⟨o, es, ep, ho, hd, _⟩, _⟩ := I2.loc
    rw [z, ho] at hf
    cases hf
    cases hd
  have fF : f ∉ X.fs := fun z => hfr (by
    rcases I2.ok.stk with e | ⟨e, _⟩
    · rw [e]; exact z
    · rw [e]
      have z : f ∈ frs X.outer := z
      unfold frs at z ⊢
      obtain ⟨y, hy, ey⟩ := List.mem_filterMap.mp z
      exact List.mem_filterMap.mpr ⟨y, List.mem_cons_of_mem _ hy, ey⟩)
  generalize hfo : PySem.W.kla_obj "<lambda>" (X.env.qual ++ "<lambda>") params body scope (cloFrom X.env.cells scope.names []) pm c' ctv = fo at hf
  have foC : ∀ v, fo.data ≠ .cell v := fun v z => by rw [← hfo] at z; cases z
  have Ip : Inv X ((f, fo) :: pins) σ H2 s2 := I2.pins_of fun p hp => by
    rcases List.mem_cons.mp hp with e | hp
    · subst e
      exact ⟨hf, hfn, fL, fF, foC⟩
    · exact I2.pin p (List.mem_append_right _ hp)
  have hrr : Room (k + 1) X.A.in1.in1 := hr.in1.in1
  have un := hrr.units
  refine SrtZ.sorted_of_src (SrtZ.src_raw sys) hr.hd raw (by rw [sz]; exact few) (ksk_s1 _ _) (fun _ => ksk_l1 _ _) fun hh tk0 vs keep0 vl items E' => ?_
  rw [ksk_t1]
  have hoL : (hh.push (seqObj "list" vs.toArray 0)).get? hh.objs.size = some (seqObj "list" vs.toArray 0) := Heap.get?_push_size _ rfl
  have I0 : Inv X ((f, fo) :: pins) σ H2 { s2 with heap := hh, toks := tk0 } := Ip.kept (t' := tk0) keep0
  have keepP : ∀ b o, s2.heap.get? b = some o → (hh.push (seqObj "list" vs.toArray 0)).get? b = some o := fun b o e => Heap.get?_push_of_some _ (keep0 b o e)
  have vl2 : vs.length = ps.length := by omega
  -- what each item is
  have item : ∀ (i : Nat) (v : Value), vs[i]? = some v → ∃ (q : Addr) (k0 : List Str), v = .ref q ∧ ps[i]? = some k0 ∧ TupZ H2 q (strL k0) := fun i v hv => by
    obtain ⟨en, he2, rfl⟩ := items i v hv
    have ik : i < kvs.length := by
      have := (List.getElem?_eq_some_iff.mp hv).1
      omega
    have ip : i < ps.length := by omega
    obtain ⟨hi, q, e1, e2, _⟩ := ent i _ _ (show kvs[i]? = some (kvs[i].1, kvs[i].2) from List.getElem?_eq_getElem ik)
    rw [Array.getElem?_eq_getElem hi] at he2
    obtain rfl := Option.some.inj he2
    have e3 : kvs[i].1 = keyT ps[i] := by
      have : (kvs.map (·.1))[i]? = (ps.map keyT)[i]? := by rw [kp]
      rw [List.getElem?_map, List.getElem?_map, List.getElem?_eq_getElem ik, List.getElem?_eq_getElem ip] at this
      exact Option.some.inj this
    rw [e3, keyT_V] at e2
    exact ⟨q, ps[i], e1, List.getElem?_eq_getElem ip, e2⟩
  refine SrtZ.keyS_tree (kz := ps.map encP) (b := false) (a := hh.objs.size) (s := { s2 with heap := hh.push (seqObj "list" vs.toArray 0), toks := tk0 }) (A := X.A.in1.in1)
    (St := fun kS e1 i kL s' => ∃ H', Inv X ((f, fo) :: pins) σ H' s' ∧ Kp H2 H' ∧ FpOk X ((f, fo) :: pins) H' kS ∧ FpOk X ((f, fo) :: pins) H' hh.objs.size ∧ EachIs (fun u k => ∃ v, RelV v u ∧ EncAt H' v k) kL (ps.take i))
    hoL (by rw [List.length_map, vl2]) (by rw [vl2, ← kl]; exact few) (fun d hd d' hd' => ?_) (.inl fun d hd => ?_) (fun d hd => ?_) (fun h' e1 kS le keep nk na => ?_) (fun kS e1 le i v s' kL e0 hv st kll nk na => ?_) (fun kS e1 kL s' st => ?_) fun kS e1 kL s' h' tk out c0 le st keep na ko => ?_
  · obtain ⟨n, _, rfl⟩ := List.mem_map.mp hd
    obtain ⟨m, _, rfl⟩ := List.mem_map.mp hd'
    exact alike_enc n m
  · obtain ⟨n, _, rfl⟩ := List.mem_map.mp hd
    exact ⟨_, _, rfl⟩
  · obtain ⟨n, _, rfl⟩ := List.mem_map.mp hd
    have := depth_enc n
    omega
  · have J : Inv X ((f, fo) :: pins) σ H2 { s2 with heap := h', toks := tk0 } := Ip.kept (t' := tk0) fun b o e => keep b o (Nat.ne_of_lt (Heap.lt_size (keep0 b o e))) (keepP b o e)
    have le2 : hh.objs.size ≤ kS := Nat.le_trans (Nat.le_of_lt (Heap.lt_size hoL)) le
    exact ⟨H2, J, fun _ _ e => e, I0.fpOk le2 (I0.hok.fresh le2), I0.fpOk (Nat.le_refl _) (I0.hok.fresh (Nat.le_refl _)), by rw [List.take_zero]; exact .nil⟩
  · obtain ⟨H', J, kp2, fk, fa, each⟩ := st
    obtain ⟨q0, k0, rfl, hk0, tz⟩ := item i v hv
    have J2 : Inv X ((kS, seqObj "list" kL.toArray e0) :: (hh.objs.size, seqObj "list" #[] e1) :: (f, fo) :: pins) σ H' s' := J.pins_of fun p hp => by
      rcases List.mem_cons.mp hp with e | hp
      · subst e
        exact ⟨nk, fk.1, fk.2.1, fk.2.2.1, fun v z => by cases z⟩
      · rcases List.mem_cons.mp hp with e | hp
        · subst e
          exact ⟨na, fa.1, fa.2.1, fa.2.2.1, fun v z => by cases z⟩
        · exact J.pin p (List.mem_append_right _ hp)
    have rawf : s'.heap.get? f = some fo := (J.pin (f, fo) (List.mem_append_right _ (List.mem_cons_self ..))).1
    rw [← hfo] at rawf
    refine wpAny_mono (lam_call (F := fun _ _ => False) J2 L J2.env0.in1.in1 hrr rawf (kp2 _ _ hco) (hbind _ _ _ _ _ _) (v := .ref q0) (u := .ref q0) rfl (hbody _ _ _ _ _ _ (hrr.deeper _)) (key q0 k0 H' (List.mem_of_getElem? hk0) (tz.mono kp2) kp2) fun e s'' z => ?_) (fun u s'' hq => ?_) fun _ _ z => z
    · obtain ⟨_, _, _, _, _, _, _, _, _, _, _, _, z⟩ := z
      exact z
    · obtain ⟨v2, H3, J3, r3, ⟨t, e3, ht3⟩, kp3⟩ := hq
      have p1 := J3.pin (kS, seqObj "list" kL.toArray e0) (List.mem_append_right _ (List.mem_cons_self ..))
      have p2 := J3.pin (hh.objs.size, seqObj "list" #[] e1) (List.mem_append_right _ (List.mem_cons_of_mem _ (List.mem_cons_self ..)))
      refine ⟨p1.1, p2.1, fun h' sb => ⟨H3, ?_, fun b o e => kp3 _ _ (kp2 _ _ e), ⟨p1.2.1, fk.2⟩, ⟨p2.2.1, fa.2⟩, ?_⟩⟩
      · have J4 : Inv X ((f, fo) :: pins) σ H3 s'' := J3.pins_of fun p hp => J3.pin p (List.mem_append_right _ (List.mem_cons_of_mem _ (List.mem_cons_of_mem _ hp)))
        exact J4.turnedL (t' := s''.toks) (ch := [kS]) (fun c o hc q => (sb.2 c fun z => hc (by rw [z]; exact List.mem_cons_self ..)).trans q) fun b hb => by
          rw [List.mem_singleton.mp hb]
          exact ⟨p1.2.1, fk.2⟩
      · rw [take_succ hk0]
        exact each_snoc (R := fun (u : Value) (k : List Str) => ∃ v, RelV v u ∧ EncAt H3 v k) ⟨v2, r3, t, q0, e3, ht3, (tz.mono kp2).mono kp3⟩ (each.mono fun _ _ ⟨v, r, w⟩ => ⟨v, r, w.mono kp3⟩)
  · obtain ⟨H', J, kp2, fk, fa, each⟩ := st
    rw [vl2, List.take_length] at each
    refine each_map _ (each.mono fun u k0 ⟨v, r, w⟩ => ?_)
    exact Dp.reads J _ _ _ w.dp r
  · obtain ⟨H', J, kp2, fk, fa, each⟩ := st
    have J1 : Inv X ((f, fo) :: pins) σ H' { s' with heap := h', toks := tk } := J.turnedL (t' := tk) (ch := [kS, hh.objs.size]) (fun c o hc q => keep c o (fun z => hc (by rw [z]; simp)) (fun z => hc (by rw [z]; simp)) q) fun b hb => by
      rcases List.mem_cons.mp hb with e | hb
      · rw [e]; exact fk
      · rw [List.mem_singleton.mp hb]; exact fa
    have J5 : Inv X pins σ H' { s' with heap := h', toks := tk } := J1.pins_of fun p hp => J1.pin p (List.mem_append_right _ (List.mem_cons_of_mem _ hp))
    have fa5 : FpOk X pins H' hh.objs.size := by
      obtain ⟨f1, f2, f3, f4, f5, f6⟩ := fa
      refine ⟨f1, f2, f3, f4, f5, fun p hp => f6 p ?_⟩
      rcases List.mem_append.mp hp with z | z
      · exact List.mem_append_left _ z
      · exact List.mem_append_right _ (List.mem_cons_of_mem _ z)
    have ev : EachIs (fun (u : Value) (k : List Str) => ∃ q, u = .ref q ∧ TupZ H' q (strL k)) vs ps := each_atL vl2 fun i v k0 hv hk => by
      obtain ⟨q0, k1, e, hk1, tz⟩ := item i v hv
      rw [hk] at hk1
      obtain rfl := Option.some.inj hk1
      exact ⟨q0, e, tz.mono kp2⟩
    have eo := keyedOut_each encP ko ev
    have lo : out.length = ps.length := by
      have := eo.length
      rw [List.length_mergeSort] at this
      exact this
    obtain ⟨ws, hw1, hw2⟩ : ∃ ws : List V, Vals ws out ∧ Paired (fun v k => ∃ q, v = V.ref q ∧ TupZ H' q (strL k)) ws (ps.mergeSort leP) := by
      have go : ∀ {us : List Value} {ks : List (List Str)}, EachIs (fun (u : Value) (k : List Str) => ∃ q, u = .ref q ∧ TupZ H' q (strL k)) us ks → ∃ ws : List V, Vals ws us ∧ Paired (fun v k => ∃ q, v = V.ref q ∧ TupZ H' q (strL k)) ws ks := fun h => by
        induction h with
        | nil => exact ⟨[], .nil, .nil⟩
        | cons a _ ih =>
          obtain ⟨q, rfl, tz⟩ := a
          obtain ⟨ws, h1, h2⟩ := ih
          exact ⟨V.ref q :: ws, .cons rfl h1, .cons ⟨q, rfl, tz⟩ h2⟩
      exact go eo
    have lw := pd_len hw2
    rw [List.length_mergeSort] at lw
    refine ⟨rfl, .ref hh.objs.size, upd H' hh.objs.size (.lst ws), ?_, rfl, q _ H' ws kp2 fa.1 hw2⟩
    exact J5.take (h' := h') (t' := tk) (fun b ob _ e => e) fa5 ⟨by rw [lw, ← kl]; exact few, out, c0, hw1, na⟩
end
end CP

set_option Elab.async false
set_option linter.all false
set_option maxRecDepth 100000
set_option maxHeartbeats 4000000
set_option autoImplicit false
/-! d[k] of a dict whose keys are tuples -/
namespace CP
open L2 PySem PyProof.Rows
def tDSubZ (z : Pw) (td ty : TE) : TE := fun σ H Q => td σ H fun x H1 => ty σ H1 fun y H2 => ∃ a kvs k b v, x = .ref a ∧ y = .ref b ∧ DR z H2 a kvs ∧ KeyAt H2 b k ∧ valV kvs k = some v ∧ Q v H2
section
variable {X : Cx} {o i : Expr} {pos : Pos} {td ty : TE}
theorem pe_dsubZ (hu : X.A.units + 1 < cLine) (ho : PE X o td) (hi : PE X i ty) (hs : NoSl i) : PE X (.Subscript o i pos) (tDSubZ (X.prog, X.w) td ty) := by
  refine ⟨fun pins s σ H Q I h => ?_⟩
  refine subD_of PySem.F.slot_dict_getitem.lookup hs (thn (ho.run pins s σ H _ I h) fun u s1 ⟨x, H1, I1, rx, q1⟩ => thn (hi.run pins s1 σ H1 _ I1 q1) fun iv s2 ⟨y, H2, I2, ry, a, kvs, k, b, v, ex, ey, g, kb, l, q2⟩ => ?_)
  subst ex
  subst ey
  obtain rfl : u = Value.ref a := rx
  cases (show iv = Value.ref b from ry)
  obtain ⟨sys, xs, rel, dd⟩ := dr_of I2.hok g
  obtain ⟨w', hw, rw'⟩ := RelO.some_of (v := v) (o := (atKey xs k).map (·.2)) (by rw [← l]; exact rel.val k)
  obtain ⟨p, hp, hp2⟩ := Option.map_eq_some_iff.mp hw
  refine ⟨dd.typeIs, wpAny_getItem_heap (tupleKind_room_in1 hu) (kb.is I2.hok) dd hp ?_⟩
  rw [hp2]
  exact ⟨v, H2, I2.tok _, rw', q2⟩
end
section
variable {σ : L2.St} {H : Hp} {Q : VK} {td ty : TE} {z : Pw}
theorem r_dsubZ (q : td σ H fun x H1 => ty σ H1 fun y H2 => ∃ a kvs k b v, x = .ref a ∧ y = .ref b ∧ DR z H2 a kvs ∧ KeyAt H2 b k ∧ valV kvs k = some v ∧ Q v H2) : tDSubZ z td ty σ H Q := q
end
end CP

set_option Elab.async false
set_option linter.all false
set_option maxRecDepth 100000
set_option maxHeartbeats 4000000
set_option autoImplicit false
/-! products in order: fewer letters first, then by their letters -/
namespace CP
open PySem PySem.W PyProof.Rows L2
def sgn (p : List Str) : List (List Nat) := p.map fun x => x.cps.toList
theorem sgn_inj : ∀ {p q : List Str}, sgn p = sgn q → p = q
  | [], [], _ => rfl
  | [], _ :: _, h => by simp [sgn] at h
  | _ :: _, [], h => by simp [sgn] at h
  | x :: p, y :: q, h => by
    unfold sgn at h
    rw [List.map_cons, List.map_cons] at h
    injection h with h1 h2
    rw [str_of_cps h1, sgn_inj h2]
theorem rowLt_strs : ∀ xs ys : List Str, rowLt (xs.map .str) (ys.map .str) = decide (sgn xs < sgn ys)
  | [], [] => by
    have e : rowLt [] [] = false := lex_irrefl _
    simp [e, sgn]
  | [], y :: ys => by
    have e : rowLt [] (PyData.str y :: ys.map .str) = true := by
      unfold rowLt
      rw [toks_all_cons]
      simp only [keyToksAll]
      rw [lex_diff (O := itemOrd) (by simp)]
      rfl
    simpa [sgn] using e
  | x :: xs, [] => by
    have e : rowLt (PyData.str x :: xs.map .str) [] = false := by
      unfold rowLt
      rw [toks_all_cons]
      simp only [keyToksAll]
      rw [lex_diff (O := itemOrd) (by simp)]
      rfl
    simpa [sgn] using e
  | x :: xs, y :: ys => by
    have e : rowLt (PyData.str x :: xs.map .str) (PyData.str y :: ys.map .str) = if x = y then rowLt (xs.map .str) (ys.map .str) else decide (x.cps.toList < y.cps.toList) := by
      unfold rowLt
      rw [dataLt_cons (by simp [alike]), dataLt_str]
      simp only [PyData.eqv, beq_iff_eq]
    show rowLt (PyData.str x :: xs.map .str) (PyData.str y :: ys.map .str) = _
    rw [e]
    unfold sgn
    rw [List.map_cons, List.map_cons]
    by_cases h : x = y
    · rw [if_pos h, rowLt_strs xs ys]
      subst h
      simp only [List.cons_lt_cons_iff, true_and, List.lt_irrefl, false_or, sgn]
      exact decide_eq_decide.mpr Iff.rfl
    · have h2 : x.cps.toList ≠ y.cps.toList := fun z => h (str_of_cps z)
      rw [if_neg h]
      simp [h2, List.cons_lt_cons_iff]
/-- fewer letters, or as many and not behind -/
def leQ (p q : List Str) : Bool := decide (p.length < q.length) || (decide (p.length = q.length) && !decide (sgn q < sgn p))
theorem leP_is : leP = leQ := by
  funext p q
  show (!dataLt (encP q) (encP p)) = _
  unfold encP leQ
  rw [dataLt_pair (by simp [alike]) (by simp only [alike]; exact alike_strs _ _), dataLt_int, dataLt_tuple]
  have ev1 : PyData.eqv (.tuple (q.map .str)) (.tuple (p.map .str)) = decide (q = p) := by simp only [PyData.eqv]; exact eqv_strs q p
  have ev0 : PyData.eqv (.int (q.length : Int)) (.int (p.length : Int)) = true ↔ q.length = p.length := by simp only [PyData.eqv, beq_iff_eq]; omega
  have rl := rowLt_strs q p
  unfold rowLt at rl
  rw [rl]
  by_cases l : q.length = p.length
  · rw [if_pos (ev0.mpr l), decide_eq_false (show ¬ p.length < q.length by omega), decide_eq_true l.symm, Bool.false_or, Bool.true_and]
    by_cases e : q = p
    · rw [if_pos (by rw [ev1]; exact decide_eq_true e), decide_eq_false (show ¬ sgn q < sgn p by rw [e]; exact List.lt_irrefl _)]
    · rw [if_neg (by rw [ev1]; simpa using e)]
  · rw [if_neg (fun z => l (ev0.mp z)), decide_eq_false (show ¬ p.length = q.length by omega), Bool.false_and, Bool.or_false]
    by_cases z : q.length < p.length
    · rw [decide_eq_true (show (q.length : Int) < p.length by omega), decide_eq_false (show ¬ p.length < q.length by omega)]; rfl
    · rw [decide_eq_false (show ¬ (q.length : Int) < p.length by omega), decide_eq_true (show p.length < q.length by omega)]; rfl
theorem leQ_total (p q : List Str) : leQ p q = true ∨ leQ q p = true := by
  unfold leQ
  rcases Nat.lt_trichotomy p.length q.length with h | h | h
  · left; simp [h]
  · by_cases z : sgn q < sgn p
    · right
      have : ¬ sgn p < sgn q := List.lt_asymm z
      simp [h.symm, this]
    · left; simp [h, z]
  · right; simp [h]
theorem leQ_trans {p q r : List Str} (h1 : leQ p q = true) (h2 : leQ q r = true) : leQ p r = true := by
  unfold leQ at *
  simp only [Bool.or_eq_true, Bool.and_eq_true, decide_eq_true_eq, Bool.not_eq_true', decide_eq_false_iff_not] at *
  rcases h1 with h1 | ⟨h1, h1'⟩
  · rcases h2 with h2 | ⟨h2, _⟩
    · left; omega
    · left; omega
  · rcases h2 with h2 | ⟨h2, h2'⟩
    · left; omega
    · right
      exact ⟨by omega, fun z => by
        have a : sgn p ≤ sgn q := List.not_lt.mp h1'
        have b : sgn q ≤ sgn r := List.not_lt.mp h2'
        exact List.not_lt.mpr (List.le_trans a b) z⟩
theorem leQ_anti {p q : List Str} (h1 : leQ p q = true) (h2 : leQ q p = true) : p = q := by
  unfold leQ at *
  simp only [Bool.or_eq_true, Bool.and_eq_true, decide_eq_true_eq, Bool.not_eq_true', decide_eq_false_iff_not] at *
  rcases h1 with h1 | ⟨h1, h1'⟩
  · rcases h2 with h2 | ⟨h2, _⟩ <;> omega
  · rcases h2 with h2 | ⟨h2, h2'⟩
    · omega
    · exact sgn_inj (List.le_antisymm (List.not_lt.mp h1') (List.not_lt.mp h2'))
def insP (x : List Str) : List (List Str) → List (List Str)
  | [] => [x]
  | y :: l => if leQ x y then x :: y :: l else y :: insP x l
/-- the products in order -/
def ordP (l : List (List Str)) : List (List Str) := l.foldr insP []
theorem insP_perm (x : List Str) : ∀ l, (insP x l).Perm (x :: l)
  | [] => .refl _
  | y :: l => by
    unfold insP
    split
    · exact .refl _
    · exact ((insP_perm x l).cons y).trans (.swap ..)
theorem insP_pw (x : List Str) : ∀ {l : List (List Str)}, l.Pairwise (fun a b => leQ a b = true) → (insP x l).Pairwise (fun a b => leQ a b = true)
  | [], _ => List.pairwise_singleton _ _
  | y :: l, h => by
    have hh := List.pairwise_cons.mp h
    unfold insP
    split
    · rename_i e
      refine List.pairwise_cons.mpr ⟨fun z hz => ?_, h⟩
      rcases List.mem_cons.mp hz with r | r
      · rw [r]; exact e
      · exact leQ_trans e (hh.1 z r)
    · rename_i e
      refine List.pairwise_cons.mpr ⟨fun z hz => ?_, insP_pw x hh.2⟩
      rcases List.mem_cons.mp ((insP_perm x l).mem_iff.mp hz) with r | r
      · rw [r]; exact (leQ_total x y).resolve_left e
      · exact hh.1 z r
theorem ordP_perm (l : List (List Str)) : (ordP l).Perm l := by
  induction l with
  | nil => exact .refl _
  | cons x l ih => exact (insP_perm x _).trans (ih.cons x)
theorem ordP_pw (l : List (List Str)) : (ordP l).Pairwise (fun a b => leQ a b = true) := by
  induction l with
  | nil => exact .nil
  | cons x l ih => exact insP_pw x ih
theorem sort_is (l : List (List Str)) : l.mergeSort leP = ordP l := by
  rw [leP_is]
  refine List.Perm.eq_of_pairwise (le := fun a b => leQ a b = true) (fun a b _ _ h1 h2 => leQ_anti h1 h2) ?_ (ordP_pw l) ((List.mergeSort_perm l leQ).trans (ordP_perm l).symm)
  exact List.pairwise_mergeSort (le := leQ) (fun a b c h1 h2 => leQ_trans h1 h2) (fun a b => by
    rcases leQ_total a b with h | h
    · rw [h]; rfl
    · rw [h, Bool.or_true]) l
end CP

set_option Elab.async false
set_option linter.all false
set_option maxRecDepth 100000
set_option maxHeartbeats 4000000
set_option autoImplicit false
/-! drawn expressions: what they are worth, their forms -/
namespace CP
open L2 PySem PyProof.Rows
inductive Ow | plus | minus | times
def Ow.word : Ow → Str
  | .plus => "plus"
  | .minus => "minus"
  | .times => "times"
theorem Ow.out (o : Ow) : decide (o.word = "number") = false ∧ decide (o.word = "letter") = false ∧ decide (o.word = "divided") = false := by cases o <;> decide +kernel
theorem Ow.is (o : Ow) : (decide (o.word = "times") = match o with | .times => true | _ => false) ∧ (decide (o.word = "minus") = match o with | .minus => true | _ => false) := by cases o <;> decide +kernel
theorem w_nn : decide (("number" : Str) = "number") = true := by decide +kernel
theorem w_ln : decide (("letter" : Str) = "number") = false := by decide +kernel
theorem w_ll : decide (("letter" : Str) = "letter") = true := by decide +kernel
theorem w_dn : decide (("divided" : Str) = "number") = false := by decide +kernel
theorem w_dl : decide (("divided" : Str) = "letter") = false := by decide +kernel
theorem w_dd : decide (("divided" : Str) = "divided") = true := by decide +kernel
inductive Tr
  | num (n : Int)
  | let (w : Str)
  | div (a : Tr) (k : Int)
  | op (o : Ow) (a b : Tr)
def TrAt (H : Hp) : V → Tr → Prop
  | v, .num n => ∃ t, v = .ref t ∧ H t = some (.tup [.str "number", .int n])
  | v, .let w => ∃ t, v = .ref t ∧ H t = some (.tup [.str "letter", .str w])
  | v, .div a k => ∃ t x, v = .ref t ∧ H t = some (.tup [.str "divided", x, .int k]) ∧ TrAt H x a
  | v, .op o a b => ∃ t x y, v = .ref t ∧ H t = some (.tup [.str o.word, x, y]) ∧ TrAt H x a ∧ TrAt H y b
/-- tuples stand while a list changes -/
def TupStay (H H' : Hp) : Prop := ∀ t xs, H t = some (.tup xs) → H' t = some (.tup xs)
theorem TrAt.stay {H H' : Hp} (s : TupStay H H') : ∀ {t : Tr} {v : V}, TrAt H v t → TrAt H' v t
  | .num n, v, ⟨t, e, h⟩ => ⟨t, e, s _ _ h⟩
  | .let w, v, ⟨t, e, h⟩ => ⟨t, e, s _ _ h⟩
  | .div a k, v, ⟨t, x, e, h, h1⟩ => ⟨t, x, e, s _ _ h, TrAt.stay s h1⟩
  | .op o a b, v, ⟨t, x, y, e, h, h1, h2⟩ => ⟨t, x, y, e, s _ _ h, TrAt.stay s h1, TrAt.stay s h2⟩
theorem stay_same {H H' : Hp} (s : Same H H') : TupStay H H' := fun _ _ h => s _ _ h
theorem stay_sb {H H' : Hp} {p : Addr} {xs : List V} (hp : H p = some (.lst xs)) (s : SB p H H') : TupStay H H' := fun t ys h => s _ _ (fun e => by rw [e, hp] at h; cases h) h
/-- at most n high, letters among L, numbers below 2 ^ m -/
def TrOk (L : List Str) (m : Nat) : Nat → Tr → Prop
  | _, .num n => n.natAbs < 2 ^ m
  | _, .let w => w ∈ L
  | n + 1, .div a k => 1 ≤ k ∧ k ≤ 10 ∧ TrOk L m n a
  | n + 1, .op _ a b => TrOk L m n a ∧ TrOk L m n b
  | 0, _ => False
theorem TrOk.up {L : List Str} {m k : Nat} (h : m ≤ k) : ∀ {n : Nat} {t : Tr}, TrOk L m n t → TrOk L k (n + 1) t ∧ TrOk L k n t
  | n, .num i, z => by
    have e : 2 ^ m ≤ 2 ^ k := pow_up h
    cases n <;> exact ⟨Nat.lt_of_lt_of_le z e, Nat.lt_of_lt_of_le z e⟩
  | n, .let w, z => by cases n <;> exact ⟨z, z⟩
  | 0, .div a i, z => z.elim
  | 0, .op _ a b, z => z.elim
  | n + 1, .div a i, z => ⟨⟨z.1, z.2.1, (TrOk.up h z.2.2).1⟩, z.1, z.2.1, (TrOk.up h z.2.2).2⟩
  | n + 1, .op _ a b, z => ⟨⟨(TrOk.up h z.1).1, (TrOk.up h z.2).1⟩, (TrOk.up h z.1).2, (TrOk.up h z.2).2⟩
def worthO : Ow → Int × Int → Int × Int → Int × Int
  | .times, a, b => (a.1 * b.1, a.2 * b.2)
  | .minus, a, b => (a.1 * b.2 - b.1 * a.2, a.2 * b.2)
  | .plus, a, b => (a.1 * b.2 + b.1 * a.2, a.2 * b.2)
def worthM (v : Str → Int) : Tr → Int × Int
  | .num n => (n, 1)
  | .let w => (v w, 1)
  | .div a k => ((worthM v a).1, (worthM v a).2 * k)
  | .op o a b => worthO o (worthM v a) (worthM v b)
def formO : Ow → Fm → Fm → Fm
  | .times, f, g => mulM f g
  | .minus, f, g => addM f (negM g)
  | .plus, f, g => addM f g
def formM : Tr → Fm
  | .num n => madeM [([], n)] 1
  | .let w => monoM [w]
  | .div a k => overM (formM a) k
  | .op o a b => formO o (formM a) (formM b)
theorem one_le_two {n : Nat} : 1 ≤ 2 ^ n := Nat.one_le_two_pow
theorem TrOk.fq {L : List Str} {m : Nat} (hm : 4 ≤ m) : ∀ {n : Nat} {t : Tr}, TrOk L m n t → Fq L (2 ^ 2 ^ n) (2 ^ n) ((m + 1) * 2 ^ n) (4 * 2 ^ n) (formM t)
  | n, .num i, z => by
    have z : i.natAbs < 2 ^ m := by cases n <;> exact z
    have o := one_le_two (n := n)
    have : (m + 1) * 1 ≤ (m + 1) * 2 ^ n := Nat.mul_le_mul_left _ o
    exact (Fq.num (L := L) i z).up (fun _ h => h) one_le_two (Nat.zero_le _) (by omega) (by omega)
  | n, .let w, z => by
    have z : w ∈ L := by cases n <;> exact z
    have o := one_le_two (n := n)
    have : (m + 1) * 1 ≤ (m + 1) * 2 ^ n := Nat.mul_le_mul_left _ o
    exact (Fq.one z).up (fun _ h => h) one_le_two o (by omega) (by omega)
  | 0, .div a i, z => z.elim
  | 0, .op _ a b, z => z.elim
  | n + 1, .div a i, z => by
    have f := TrOk.fq hm z.2.2
    have o := one_le_two (n := n)
    have e : 2 ^ (n + 1) = 2 ^ n * 2 := Nat.pow_succ ..
    have g := Fq.over (n := i) (k := 4) f (by have := z.1; omega) (by have := z.1; have := z.2.1; omega)
    refine g.up (fun _ h => h) (pow_up (by omega)) (by omega) (Nat.mul_le_mul_left _ (by omega)) (by omega)
  | n + 1, .op o a b, z => by
    have f := TrOk.fq hm z.1
    have g := TrOk.fq hm z.2
    have k := one_le_two (n := n)
    have e : 2 ^ (n + 1) = 2 ^ n * 2 := Nat.pow_succ ..
    have t1 : 2 ^ 2 ^ (n + 1) = 2 ^ 2 ^ n * 2 ^ 2 ^ n := by rw [← Nat.pow_add]; congr 1; omega
    have t2 : 2 ≤ 2 ^ 2 ^ n := by
      have := pow_up (a := 1) (b := 2 ^ n) k
      omega
    have t3 : 2 ^ 2 ^ n + 2 ^ 2 ^ n ≤ 2 ^ 2 ^ n * 2 ^ 2 ^ n := by
      have := Nat.mul_le_mul_right (2 ^ 2 ^ n) t2
      omega
    have m1 : (m + 1) * 2 ^ (n + 1) = (m + 1) * 2 ^ n + (m + 1) * 2 ^ n := by rw [e]; grind
    have m2 : 5 * 2 ^ n ≤ (m + 1) * 2 ^ n := Nat.mul_le_mul_right _ (by omega)
    cases o with
    | times => exact (Fq.mul f g).up (fun _ h => h) (by omega) (by omega) (by omega) (by omega)
    | minus => exact (Fq.add (b := (m + 1) * 2 ^ (n + 1)) f g.neg (by omega) (by omega)).up (fun _ h => h) (by omega) (by omega) (Nat.le_refl _) (by omega)
    | plus => exact (Fq.add (b := (m + 1) * 2 ^ (n + 1)) f g (by omega) (by omega)).up (fun _ h => h) (by omega) (by omega) (Nat.le_refl _) (by omega)
theorem TrOk.worth {L : List Str} {m : Nat} (hm : 4 ≤ m) (v : Str → Int) : ∀ {n : Nat} {t : Tr}, TrOk L m n t → Worth v (formM t) (worthM v t).1 (worthM v t).2
  | n, .num i, _ => Worth.num v i
  | n, .let w, _ => Worth.one v w
  | 0, .div a i, z => z.elim
  | 0, .op _ a b, z => z.elim
  | n + 1, .div a i, z => by
    have f := TrOk.fq hm z.2.2
    have h := Worth.over (n := i) f.pos (by have := z.1; omega) (TrOk.worth hm v z.2.2)
    have p := z.1
    rw [if_pos (by omega), show (i.natAbs : Int) = i by omega] at h
    exact h
  | n + 1, .op o a b, z => by
    have f := TrOk.fq hm z.1
    have g := TrOk.fq hm z.2
    have h1 := TrOk.worth hm v z.1
    have h2 := TrOk.worth hm v z.2
    cases o with
    | times => exact Worth.mul f.pos g.pos h1 h2
    | plus => exact Worth.add f.nd f.pos g.pos h1 h2
    | minus =>
      have h := Worth.add f.nd f.pos g.neg.pos h1 h2.neg
      rw [show (worthM v a).1 * (worthM v b).2 + (0 - (worthM v b).1) * (worthM v a).2 = (worthM v a).1 * (worthM v b).2 - (worthM v b).1 * (worthM v a).2 by grind] at h
      exact h
theorem wmul {i j : Int} {a b c : Nat} (ha : i.natAbs < 2 ^ a) (hb : j.natAbs < 2 ^ b) (h : a + b ≤ c) : (i * j).natAbs < 2 ^ c := by
  rw [Int.natAbs_mul]
  have := Nat.mul_lt_mul'' ha hb
  rw [← Nat.pow_add] at this
  exact Nat.lt_of_lt_of_le this (pow_up h)
theorem wadd {i j : Int} {a b c : Nat} (ha : i.natAbs < 2 ^ a) (hb : j.natAbs < 2 ^ b) (h : a < c) (k : b < c) : (i + j).natAbs < 2 ^ c ∧ (i - j).natAbs < 2 ^ c := by
  have p1 : 2 ^ a ≤ 2 ^ (c - 1) := pow_up (by omega)
  have p2 : 2 ^ b ≤ 2 ^ (c - 1) := pow_up (by omega)
  have p3 : 2 ^ c = 2 ^ (c - 1) * 2 := by rw [← Nat.pow_succ]; congr 1; omega
  omega
theorem cmulW {i j : Int} {a b : Nat} (ha : i.natAbs < 2 ^ a) (hb : j.natAbs < 2 ^ b) (h0 : 0 < a) (h1 : 0 < b) (h : a + b ≤ 1000000) : CMulW i j := wide_mul ha hb h0 h1 h
/-- how great -/
theorem TrOk.low {L : List Str} {m : Nat} {v : Str → Int} (hm : m ≤ 69) (hv : ∀ w ∈ L, (v w).natAbs < 2 ^ 69) : ∀ {n : Nat} {t : Tr}, TrOk L m n t → (worthM v t).1.natAbs < 2 ^ (70 * 2 ^ n) ∧ 0 < (worthM v t).2 ∧ (worthM v t).2.natAbs < 2 ^ (4 * 2 ^ n)
  | n, .num i, z => by
    have z : i.natAbs < 2 ^ m := by cases n <;> exact z
    have o := one_le_two (n := n)
    have : 2 ^ 1 ≤ 2 ^ (4 * 2 ^ n) := pow_up (by omega)
    exact ⟨Nat.lt_of_lt_of_le z (pow_up (by omega)), by show (0 : Int) < 1; decide, by show (1 : Int).natAbs < _; simp only [Int.natAbs_one]; omega⟩
  | n, .let w, z => by
    have z : w ∈ L := by cases n <;> exact z
    have o := one_le_two (n := n)
    have : 2 ^ 1 ≤ 2 ^ (4 * 2 ^ n) := pow_up (by omega)
    exact ⟨Nat.lt_of_lt_of_le (hv w z) (pow_up (by omega)), by show (0 : Int) < 1; decide, by show (1 : Int).natAbs < _; simp only [Int.natAbs_one]; omega⟩
  | 0, .div a i, z => z.elim
  | 0, .op _ a b, z => z.elim
  | n + 1, .div a i, z => by
    obtain ⟨h1, h2, h3⟩ := TrOk.low hm hv z.2.2
    have o := one_le_two (n := n)
    have e : 2 ^ (n + 1) = 2 ^ n * 2 := Nat.pow_succ ..
    have p := z.1
    have q := z.2.1
    exact ⟨Nat.lt_of_lt_of_le h1 (pow_up (by omega)), Int.mul_pos h2 (by omega), wmul (b := 4) h3 (by omega) (by omega)⟩
  | n + 1, .op o a b, z => by
    obtain ⟨h1, h2, h3⟩ := TrOk.low hm hv z.1
    obtain ⟨k1, k2, k3⟩ := TrOk.low hm hv z.2
    have c := one_le_two (n := n)
    have e : 2 ^ (n + 1) = 2 ^ n * 2 := Nat.pow_succ ..
    have w := wmul (c := 4 * 2 ^ (n + 1)) h3 k3 (by omega)
    have x := wmul (c := 74 * 2 ^ n) h1 k3 (by omega)
    have y := wmul (c := 74 * 2 ^ n) k1 h3 (by omega)
    have s := wadd (c := 70 * 2 ^ (n + 1)) x y (by omega) (by omega)
    cases o with
    | times => exact ⟨wmul h1 k1 (by omega), Int.mul_pos h2 k2, w⟩
    | plus => exact ⟨s.1, Int.mul_pos h2 k2, w⟩
    | minus => exact ⟨s.2, Int.mul_pos h2 k2, w⟩
end CP

set_option Elab.async false
set_option linter.all false
set_option maxRecDepth 100000
set_option maxHeartbeats 4000000
set_option autoImplicit false
/-! promises of defs that are kept where no repr is under way (so that repr of lists and tuples may be asked), and repr -/
namespace CP
open L2 PySem PyProof.Rows
/-- no repr is under way -/
def Gd (A : Around) : Prop := A.guards = some []
structure FnG (P : Program) (w : World) (K : PySem.W.Frag) (mg : Str → Option Value) (base : Heap) (CX : CXT) (k : Nat) (f : Addr) (fd : FuncData) (ps : List Str) (sp : Sp) : Prop where
  wide : ∀ zs h Q E, sp zs h Q E → zs.length = ps.length
  goes : ∀ (B : Around), Gd B → Room k B → ∀ (out : List Env) (t : Shared) (h : Hp) (args : Args) (us : List Value) (zs : List V) (Q : VK) (E : XK), Env0 P w K mg base B out t h → BindsTo t fd args (ps.zip us) → Vals zs us → sp zs h Q E →
    codeAny (model P w) B (.call (.ref f) args) (CR CX out P w h t Q E) t
section
variable {CX : CXT} {P : Program} {w : World} {K : PySem.W.Frag} {mg : Str → Option Value} {base : Heap} {k : Nat} {f : Addr} {fd : FuncData} {ps : List Str} {sp sp' : Sp}
theorem FnG.of (F : FnOk P w K mg base CX k f fd ps sp) : FnG P w K mg base CX k f fd ps sp :=
  ⟨F.len, fun B _ hr out t h args us zs Q E => F.run B out t h args us zs Q E hr⟩
theorem FnG.imp (F : FnG P w K mg base CX k f fd ps sp) (i : ∀ vs H Q E, sp' vs H Q E → sp vs H Q E) : FnG P w K mg base CX k f fd ps sp' :=
  ⟨fun zs h Q E q => F.wide zs h Q E (i _ _ _ _ q), fun B g hr out t h args us zs Q E e b v q => F.goes B g hr out t h args us zs Q E e b v (i _ _ _ _ q)⟩
/-- the rule for a def: its body is read where no repr is under way -/
theorem fnG_of {name qual : Str} {params : Arguments} {body : List Stmt} {scope : Scope} {dV kV doc pm cdv ct oc : Value} {an od : Option Addr} {osl : Array (Option Value)} {N : List Str}
    (lk : K.lookup f = some ⟨oc, od, .func (PySem.W.fnOf name qual params body scope dV kV doc pm an cdv ct), osl⟩) (hcd : PySem.W.codeIn K cdv qual = true) (S : FnScope N ps scope) (wide : ∀ zs h Q E, sp zs h Q E → zs.length = ps.length)
    (hb : ∀ (B : Around) (out : List Env) (t : Shared) (h : Hp) (zs : List V) (Q : VK) (E : XK), Gd (B.deeper (envOfC qual scope t.heap.objs.size f cdv)) → Room k (B.deeper (envOfC qual scope t.heap.objs.size f cdv)) → sp zs h Q E →
      ∃ r, PSs (cxOf CX P w K mg base N qual scope f cdv B out t h E) body r ∧ r { nx := fun _ h' => Q .non h', rt := Q } (start N zs) h) :
    FnG P w K mg base CX (k + 1) f (PySem.W.fnOf name qual params body scope dV kV doc pm an cdv ct) ps sp := by
  refine ⟨wide, fun B gd room out t h args us zs Q E env bind vals pr => ?_⟩
  have kin : K.In t.heap := env.mod.kin.keeps fun b o z => (env.bs b o z).1
  have nolim : t.heap.NoLimit := env.mod.nolimit.keeps fun b o z => (env.bs b o z).1
  have kinds : ∀ y ∈ ps.zip us, scope.names.lookup y.1 = some .local ∨ (scope.names.lookup y.1 = some .cell ∧ ((cellsFrom (t.heap.objs.size + 1) scope.names []).lookup y.1).isSome = true) := fun y hy =>
    (S.par y.1 (List.of_mem_zip (b := y.2) hy).1).imp id fun z => ⟨z, PySem.W.cellsFrom_some _ _ _ (.inl z)⟩
  refine codeAny_call_function room.depth (kin _ _ lk) rfl S.co S.gen rfl (PySem.W.codeRec_of kin hcd) (bind _ _ _ _ (wpAny_newFunctionEnv_cells S.kind kinds fun e he t1 x => ?_))
  cases he
  refine ⟨nolim.keeps x.toInCall.keep, codeAny_func ?_⟩
  obtain ⟨r, hr, hq⟩ := hb B out t h zs Q E gd (room.deeper _) pr
  refine wpAny_mono (hr.run [] t1 (start N zs) h _ (inv_start S room.hd env (wide _ _ _ _ pr) vals x) hq) (fun fl t' z => ?_) fun _ _ z => z
  match fl, z with
  | .ret u, ⟨v, _, h', J, rv, q⟩ => exact ⟨v, h', J.os, J.bare, J.base, J.hok, rv, q⟩
  | .next, ⟨_, h', J, q⟩ => exact ⟨V.non, h', J.os, J.bare, J.base, J.hok, rfl, q⟩
  | .brk, ⟨_, _, _, q⟩ => exact q.elim
  | .cont, ⟨_, _, _, q⟩ => exact q.elim
theorem Fun.okG {x qual : Str} {st : Stmt} {N : List Str} (F : Fun K x qual st f fd) (S : FnScope N ps (defScope st)) (wide : ∀ zs h Q E, sp zs h Q E → zs.length = ps.length)
    (hb : ∀ (cdv : Value) (B : Around) (out : List Env) (t : Shared) (h : Hp) (zs : List V) (Q : VK) (E : XK), Gd (B.deeper (envOfC qual (defScope st) t.heap.objs.size f cdv)) → Room k (B.deeper (envOfC qual (defScope st) t.heap.objs.size f cdv)) → sp zs h Q E →
      ∃ r, PSs (cxOf CX P w K mg base N qual (defScope st) f cdv B out t h E) (defBody st) r ∧ r { nx := fun _ h' => Q .non h', rt := Q } (start N zs) h) : FnG P w K mg base CX (k + 1) f fd ps sp := by
  obtain ⟨oc, od, kV, doc, pm, an, cdv, ct, osl, rfl, lk, hcd⟩ := F.ex
  exact fnG_of lk hcd S wide fun B out t h zs Q E => hb cdv B out t h zs Q E
end
/-! calls of such -/
section
variable {X : Cx} {CX : CXT} {k m : Nat} {f : Addr} {fd : FuncData} {ps ks : List Str} {sp : Sp} {dvs : List V} {ds : List Value} {E : XK} {x : Str} {p pos : Pos} {e : Expr} {es : List Expr} {t : TA}
theorem runG {pins : List (Addr × Obj)} {σ : L2.St} {H : Hp} {s : Shared} {Q : VK} {ws : List Value} {args : Args} {vs : List V} (F : FnG X.prog X.w X.K X.mg X.base CX k f fd ps sp) (gd : Gd X.A) (hr : Room k X.A) (hb : BindsTo s fd args (ps.zip ws)) (hx : Passes CX X E)
    (I : Inv X pins σ H s) (r : Vals vs ws) (h : sp vs H Q E) : codeAny (model X.prog X.w) X.A (.call (.ref f) args) (fun r s' => match r with | .error e => X.xe e s' | .ok (.ret u) => EP X pins σ Q u s' | .ok _ => False) s := by
  refine codeAny_mono (F.goes X.A gd hr X.stack s H args ws vs Q E I.env0 hb r h) fun r s' z => ?_
  match r, z with
  | .error e, z => exact hx pins σ H s e s' I z
  | .ok (.ret u), z => exact I.after z
theorem pe_callG (F : FnG X.prog X.w X.K X.mg X.base CX k f fd ps sp) (gd : Gd X.A) (hr : Room k X.A) (hg : Gl X x) (hm : X.mg x = some (.ref f)) (hk : PySem.W.keepIn X.K (.ref f) = true) (hb : Binds X.K fd ps ds) (hd : Vals dvs ds) (hx : Passes CX X E) (ha : PA X (e :: es) t)
    (hdb : (x == ("__debug__" : Str)) = false := by decide) (he : starEach (e :: es) X.env = (false, eval e X.env) :: starEach es X.env := by rfl) (hpl : (backTo pos (starEach es X.env)).any (·.1) = false := by rfl) :
    PE X (.Call (.Name x p) (e :: es) [] pos) (tCall sp dvs E t) := by
  constructor
  intro pins s σ H Q I h
  refine wpAny_Call_Name_kw (ld_glob I hg hm ?_ hdb)
  refine PySem.W.callWith_K (h₀ := X.base) I.ok.mod.kin hk (thn (ha.run pos pins s σ H _ I h) fun us s1 z => ?_) he hpl
  obtain ⟨zs, H1, I1, r, q⟩ := z
  have r2 : Vals (zs ++ dvs) (us ++ ds) := r.append hd
  refine ⟨I1.kIn, wpAny_call (codeAny_mono (runG F gd hr (hb s1 us I1.kIn (by rw [← r2.length]; exact F.wide _ _ _ _ q)) hx I1 r2 q) fun r s' z => ?_)⟩
  match r, z with
  | .error e, z => exact z
  | .ok (.ret u), z => exact z
/-- repr of data -/
def rRepr (K : PySem.W.Frag) : List V → Hp → VK → Prop := fun xs H Q => ∃ a d, xs = [.ref a] ∧ Dp K H (.ref a) d ∧ d.showable = true ∧ d.hasDict = false ∧ d.depth ≤ 60 ∧ d.shown.length ≤ sizeLine ∧ Q (.str d.shown) H
theorem call_reprD (gd : Gd X.A) (hu : X.A.units + 64 < cLine) : CallR X (.builtin "repr") (rRepr X.K) := by
  intro pins s σ H xs us Q I r h
  obtain ⟨a, d, rfl, hd, hs, hn, h6, hz, q⟩ := h
  obtain ⟨u, rfl, ru⟩ := vals1 r
  obtain ⟨as, rd⟩ := Dp.reads I d _ u hd ru
  cases (show u = Value.ref a from ru)
  exact repr_of_reads' rd hs (fun z => by rw [hn] at z; cases z) gd (by omega) (fun _ _ z => z) (fun h' v tk keep => ⟨.str d.shown, H, inv_grow I keep (Same.refl _) (fun _ _ z => .inl z), ⟨_, rfl⟩, q⟩) hz
end
/-! the law's own call -/
end CP

set_option Elab.async false
set_option linter.all false
set_option maxRecDepth 100000
set_option maxHeartbeats 4000000
set_option autoImplicit false
/-! repr of data in which dicts stand -/
namespace CP
open L2 PySem PyProof.Rows
def kD : Key → PyData
  | .inl i => .int i
  | .inr x => .str x
mutual
inductive DpD (H : Hp) : V → PyData → Prop
  | non : DpD H .non .none
  | bl (b : Bool) : DpD H (.bl b) (.bool b)
  | int (i : Int) : DpD H (.int i) (.int i)
  | str (x : Str) : DpD H (.str x) (.str x)
  | lst {a : Addr} {xs : List V} {ds : List PyData} : Rd H a (.lst xs) → a ≠ sysModules → DpDs H xs ds → DpD H (.ref a) (.list ds)
  | tup {a : Addr} {xs : List V} {ds : List PyData} : Rd H a (.tup xs) → DpDs H xs ds → DpD H (.ref a) (.tuple ds)
  | dct {a : Addr} {kvs : List (Key × V)} {ds : List PyData} : Rd H a (.dK kvs) → DpDs H (kvs.map (·.2)) ds → DpD H (.ref a) (.dict ((kvs.map fun p => kD p.1).zip ds))
inductive DpDs (H : Hp) : List V → List PyData → Prop
  | nil : DpDs H [] []
  | cons {v : V} {vs : List V} {d : PyData} {ds : List PyData} : DpD H v d → DpDs H vs ds → DpDs H (v :: vs) (d :: ds)
end
theorem DpDs.len {H : Hp} {vs : List V} {ds : List PyData} (h : DpDs H vs ds) : vs.length = ds.length := by
  induction vs generalizing ds with
  | nil => cases h; rfl
  | cons v vs ih => cases h with | cons _ t => simp [ih t]
theorem rd_mono {H H' : Hp} {a : Addr} {o : HO} (s : Same H H') (h : Rd H a o) : Rd H' a o := by
  rcases h with h | ⟨u, h⟩
  · exact .inl (CP.Same.to s h)
  · exact .inr ⟨u, CP.Same.to s h⟩
mutual
theorem DpD.mono {H H' : Hp} (s : Same H H') : ∀ {v : V} {d : PyData}, DpD H v d → DpD H' v d
  | _, _, .non => .non
  | _, _, .bl b => .bl b
  | _, _, .int i => .int i
  | _, _, .str x => .str x
  | _, _, .lst r n h => .lst (rd_mono s r) n (DpDs.mono s h)
  | _, _, .tup r h => .tup (rd_mono s r) (DpDs.mono s h)
  | _, _, .dct r h => .dct (rd_mono s r) (DpDs.mono s h)
theorem DpDs.mono {H H' : Hp} (s : Same H H') : ∀ {v : List V} {d : List PyData}, DpDs H v d → DpDs H' v d
  | _, _, .nil => .nil
  | _, _, .cons a b => .cons (DpD.mono s a) (DpDs.mono s b)
end
theorem kD_reads {h : Heap} {k : Key} {v : Value} (z : keyIs k v = true) : Reads h v (kD k) [] := by
  rcases keyIs_shape z with ⟨i, t, rfl, rfl⟩ | ⟨x, t, rfl, rfl⟩
  · exact .int i t
  · exact .str x t
theorem keys_reads {P : Program} {w : World} {h : Heap} {es : List DictEntry} {vs : List (Key × Value)} (q : Pairs (mixKind P w) es vs) : ReadsAll h (es.map (·.key)) (vs.map fun p => kD p.1) [] := by
  induction q with
  | nil => exact .nil
  | cons a b _ ih => exact ReadsAll.cons (as := []) (bs := []) (kD_reads a) ih
theorem vals_eq {P : Program} {w : World} {es : List DictEntry} {vs : List (Key × Value)} (q : Pairs (mixKind P w) es vs) : es.map (·.val) = vs.map (·.2) := by
  induction q with
  | nil => rfl
  | cons a b _ ih => simp [b, ih]
theorem kv_keys {kvs : List (Key × V)} {vs : List (Key × Value)} (q : KV kvs vs) : (vs.map fun p => kD p.1) = kvs.map fun p => kD p.1 := by
  unfold KV at q
  induction q with
  | nil => rfl
  | cons a _ ih => simp [a.1, ih]
theorem kv_vals {kvs : List (Key × V)} {vs : List (Key × Value)} (q : KV kvs vs) : Vals (kvs.map (·.2)) (vs.map (·.2)) := by
  unfold KV at q
  induction q with
  | nil => exact .nil
  | cons a _ ih => exact .cons a.2 ih
section
variable {X : Cx} {pins : List (Addr × Obj)} {σ : L2.St} {H : Hp} {s : Shared}
mutual
theorem DpD.reads (I : Inv X pins σ H s) : ∀ {v : V} {d : PyData} (u : Value), DpD H v d → RelV v u → ∃ as, Reads s.heap u d as ∧ sysModules ∉ as
  | _, _, _, .non, r => by cases r; exact ⟨_, .none, (by simp)⟩
  | _, _, _, .bl b, r => by cases r; exact ⟨_, .bool b, (by simp)⟩
  | _, _, _, .int i, r => by obtain ⟨t, rfl⟩ := r; exact ⟨_, .int i t, (by simp)⟩
  | _, _, _, .str x, r => by obtain ⟨t, rfl⟩ := r; exact ⟨_, .str x t, (by simp)⟩
  | _, _, _, .lst hs ne ha, r => by
    cases r
    obtain ⟨its, rv, ⟨o, n, ho, hc, _, hd⟩, _⟩ := I.list (.inl hs)
    obtain ⟨as, hr, tk⟩ := DpDs.reads I its ha rv
    exact ⟨_, Reads.list ho hc hd hr, fun z => (List.mem_cons.mp z).elim (fun e => ne e.symm) tk⟩
  | _, _, _, .tup hs ha, r => by
    cases r
    obtain ⟨its, rv, ⟨o, ho, hc, n, hd⟩, _⟩ := I.tuple (.inl hs)
    obtain ⟨as, hr, tk⟩ := DpDs.reads I its ha rv
    exact ⟨_, Reads.tuple ho hc hd hr, tk⟩
  | _, _, _, .dct (kvs := kvs) (ds := ds) hs ha, r => by
    cases r
    obtain ⟨_, na, vs, q, o, es, ep, e, ed, hd, _, pr, _⟩ := dk_rd I.hok hs
    obtain ⟨as, hr, tk⟩ := DpDs.reads I _ ha (kv_vals q)
    have hk := keys_reads (h := s.heap) pr
    rw [kv_keys q] at hk
    rw [← vals_eq pr] at hr
    have ln : (kvs.map fun p => kD p.1).length = ds.length := by
      have := ha.len
      simp at this ⊢
      exact this
    refine ⟨_, Reads.dict (as := []) (bs := as) e ?_ hd ?_ ?_, ?_⟩
    · exact ed.1
    · rw [List.map_fst_zip (by omega)]; exact hk
    · rw [List.map_snd_zip (by omega)]; exact hr
    · intro z
      simp only [List.append_nil, List.cons_append, List.nil_append, List.mem_cons] at z
      rcases z with z | z
      · rw [← z] at na
        cases na
      · exact tk z
theorem DpDs.reads (I : Inv X pins σ H s) : ∀ {vs : List V} {ds : List PyData} (us : List Value), DpDs H vs ds → Vals vs us → ∃ as, ReadsAll s.heap us ds as ∧ sysModules ∉ as
  | _, _, _, .nil, r => by cases r; exact ⟨_, .nil, (by simp)⟩
  | _, _, _, .cons h1 h2, r => by
    cases r with
    | cons r1 r2 =>
      obtain ⟨as, q1, t1⟩ := DpD.reads I _ h1 r1
      obtain ⟨bs, q2, t2⟩ := DpDs.reads I _ h2 r2
      exact ⟨_, .cons q1 q2, fun z => (List.mem_append.mp z).elim t1 t2⟩
end
end
/-- data that repr shows in few signs -/
structure Shw (d : PyData) : Prop where
  show_ : d.showable = true
  flat : d.depth ≤ 3
  short : PyData.leavesShort 40 d = true
  light : d.weight ≤ 500
/-- the same, somewhat more -/
structure ShwW (d : PyData) : Prop where
  show_ : d.showable = true
  flat : d.depth ≤ 3
  short : PyData.leavesShort 40 d = true
  light : d.weight ≤ 1000
theorem Shw.w {d : PyData} (h : Shw d) : ShwW d := ⟨h.show_, h.flat, h.short, Nat.le_trans h.light (by decide)⟩
end CP

set_option Elab.async false
set_option linter.all false
set_option maxRecDepth 100000
set_option maxHeartbeats 4000000
set_option autoImplicit false
/-! the end of a law where one def makes a lambda and repr is asked -/
namespace LamP
open PySem PySem.Spec PyProof.Rows L2 LamX CP
section
variable {K : PySem.W.Frag} {P : Program} {w : World} {mg mb : Str → Option Value} {CX : CXT} {k : Nat} {fa a c tP : Addr} {fd : FuncData} {x : Str} {sp : Sp} {t : Shared} {vals : List Value} {H : Hp}
theorem script_T (KX : K.In t.heap) (G : t.heap.Ns mainGlobals mg) (B : t.heap.Ns builtinsNs mb) (boot : ∀ x : Str, x ≠ "__name__" → mb x = bootBuiltins x) (lim : t.heap.NoLimit) (gens : t.gens = #[])
    (tab : t.heap.get? tP = some { cls := .none, data := .fields #[] }) (nT : K.lookup tP = none) (hc : PySem.W.CodeHd t.heap c tP)
    (bmn : ∃ (bm : Addr) (ob : Obj), mg "__builtins__" = some (.ref bm) ∧ bm ≠ builtinsNs ∧ t.heap.get? bm = some ob ∧ ob.cls = .type "module" ∧ ob.dict = some builtinsNs ∧ ob.data = .plain)
    (own : t.heap.get? a = some { cls := .type "list", data := .seq vals.toArray }) (room : Room k callerA) (F : ∀ base : Heap, K.In base → base.Ns mainGlobals mg → TabB base mg c tP → FnG P w K mg base CX k fa fd [x] sp)
    (bind : ∀ (s : Shared) (u : Value), BindsTo s fd ⟨[u], []⟩ [(x, u)]) (noX : ∀ H e t', CX [] H t (fun _ _ _ => False) e t' → False) (at_ : H tP = some (.tbl #[]))
    (only : ∀ b, H b = none ∨ b = tP ∨ ∃ o xs, H b = some (.frz o (.lst xs))) (ok : HOk P w H t.heap) (lone : ∀ b, H b ≠ none → b = a ∨ b = tP) (notK : H a ≠ none → K.lookup a = none)
    (pr : sp [.ref a] H (fun v _ => v = .bl true) fun _ _ _ => False) :
    codeAny (model P w) callerA (.call (.ref fa) ⟨[.ref a], []⟩) (fun r t' => r = .ok (.ret (.bool true)) ∧ OldK t.heap t'.heap ∧ t'.os = t.os ∧ AllBare t'.gens) t := by
  have low : ∀ {b : Addr} {o : Obj}, t.heap.get? b = some o → H b = none → (hidT t.heap H).get? b = some o := fun z n => hidT_get z n
  -- what is neither a sequence nor an empty table is not tracked
  have free : ∀ {b : Addr} {o : Obj}, t.heap.get? b = some o → (∀ vs n, o.data ≠ .seq vs n) → o.data ≠ .fields #[] → H b = none := fun {b o} e h1 h2 => by
    cases q : H b with
    | none => rfl
    | some u =>
      rcases lone b (by rw [q]; simp) with rfl | rfl
      · rw [own] at e; cases e; exact (h1 _ _ rfl).elim
      · rw [tab] at e; cases e; exact (h2 rfl).elim
  have dct : ∀ {b : Addr} {o : Obj} {es : Array DictEntry} {ep : Nat}, t.heap.get? b = some o → o.data = .dict es ep → H b = none := fun {b o es ep} e d =>
    free e (fun vs n z => by rw [d] at z; cases z) fun z => by rw [d] at z; cases z
  have nsD : ∀ {b : Addr} {m : Str → Option Value}, t.heap.Ns b m → (hidT t.heap H).Ns b m := fun {b m} ⟨o, es, ep, z, d, r⟩ => ⟨o, es, ep, low z (dct z d), d, r⟩
  have kin : K.In (hidT t.heap H) := fun b o z => low (KX b o z) (by
    cases q : H b with
    | none => rfl
    | some u =>
      rcases lone b (by rw [q]; simp) with rfl | rfl
      · rw [notK (by rw [q]; simp)] at z; cases z
      · rw [nT] at z; cases z)
  obtain ⟨mc, l1, l2⟩ := lim
  have md : L2.Mod K mg (hidT t.heap H) := ⟨kin, nsD G, ⟨mb, nsD B, boot⟩, mc, nsD l1, l2⟩
  have env : Env0 P w K mg (hidT t.heap H) callerA [] t H := ⟨rfl, md, fun b o z => of_hidT z, Nat.le_of_eq (hidT_size _ _), trivial, fun b z => absurd (show b ∈ ([] : List Addr) from z) (by simp), ok, .of_eq gens⟩
  have gTab : mainGlobals ≠ tP := fun z => by
    obtain ⟨o, es, ep, e, hd, _⟩ := G
    rw [z, tab] at e
    cases e
    cases hd
  have TB : TabB (hidT t.heap H) mg c tP := by
    refine ⟨?_, ?_, gTab⟩
    · obtain ⟨o, us, file, tf, flags, tg, inF, text, tt, e1, r1, r2, r⟩ := hc
      refine ⟨o, us, file, tf, flags, tg, inF, text, tt, low e1 (free e1 (fun vs n z => by rw [r2] at z; cases z) fun z => ?_), r1, r2, r⟩
      rw [r2] at z
      cases z
      have := r.1
      simp at this
    · obtain ⟨bm, ob, b1, b2, b3, b4, b5, b6⟩ := bmn
      refine ⟨bm, ob, b1, b2, fun q => ?_, fun q => ?_, low b3 (free b3 (fun vs n z => by rw [b6] at z; cases z) fun z => by rw [b6] at z; cases z), b4, b5, b6⟩
      · obtain ⟨o, es, ep, e, hd, _⟩ := G
        rw [q, e] at b3
        cases b3
        rw [hd] at b6
        cases b6
      · rw [q, tab] at b3
        cases b3
        cases b6
  refine codeAny_mono ((F _ kin (nsD G) TB).goes callerA rfl room [] t H ⟨[.ref a], []⟩ [.ref a] [.ref a] _ _ env (bind t (.ref a)) (.cons rfl .nil) pr) fun r t' z => ?_
  match r, z with
  | .error e, z => exact (noX H e t' z).elim
  | .ok (.ret u), ⟨v, H', os, bare, un, ok', ru, q⟩ =>
    cases (show v = .bl true from q)
    cases (show u = Value.bool true from ru)
    obtain ⟨more, tm⟩ := un.tbls tP #[] at_
    have grown := ok' tP _ tm
    have key : ∀ b o, b ≠ tP → t.heap.get? b = some o → t'.heap.get? b = some o := fun b o nb z => by
      rcases only b with n | n | ⟨oo, xs, n⟩
      · exact un.keep b o z n (by intro y; exact absurd (show b ∈ ([] : List Addr) from y) (by simp)) (by simp)
      · exact absurd n nb
      · have g1 := (ok b _ n).1
        rw [z] at g1
        cases g1
        exact (ok' b _ (un.frzs b _ _ n)).1
    refine ⟨rfl, ⟨fun b o z => ?_, fun b o z => ?_⟩, os, bare⟩
    · by_cases hb : b = tP
      · subst hb
        rw [tab] at z
        cases z
        exact .inr (.inl ⟨(hc.tab tab).isCodeTable, rfl, #[], _, rfl, by rw [Array.empty_append]; exact grown⟩)
      · exact .inl (key b o hb z)
    · by_cases hb : b = tP
      · subst hb
        exact ⟨_, grown⟩
      · exact ⟨o, key b o hb z⟩
end
theorem walk_lamG {l : PySem.W.OpenLaw} {n k : Nat} {q : Program} {loose : List Str} {XP : (Str → Option Value) → Heap → Prop} {YP : World → Heap → Prop} {d : DefRec} {K : Params → PySem.W.Frag} {CX : World → CXT} {sp : World → Addr → Sp} {x : Str} {ts : List Addr}
    (hn : l.most = some n) (hz : n ≤ sizeLine) (hdf : d.params.defaults = []) (room : Room k callerA) (hY : ∀ (w : World) (h : Heap), YP w h → (K w.params).In h)
    (hTs : ∀ (w : World) (h : Heap), YP w h → ∀ P ∈ ts, h.get? P = some (PySem.W.tabObj #[]))
    (F : ∀ (w : World) (mg : Str → Option Value) (fa : Addr) (h : Heap), (K w.params).In h → h.Ns mainGlobals mg → mg d.name = some (.ref fa) →
      ∃ (c tP : Addr) (fd : FuncData), PySem.W.codeHdIn (K w.params) c tP = true ∧ ts.contains tP = true ∧ (K w.params).lookup tP = none ∧ (∀ (s : Shared) (u : Value), BindsTo s fd ⟨[u], []⟩ [(x, u)]) ∧
        ∀ base : Heap, (K w.params).In base → base.Ns mainGlobals mg → TabB base mg c tP → FnG l.prog w (K w.params) mg base (CX w) k fa fd [x] (sp w tP))
    (pr : ∀ (w : World) (tP : Addr) (H : Hp) (a : Addr) (ns : List Int), ns.length ≤ n → H tP = some (.tbl #[]) → SqL (K w.params) H a (ns.map V.int) → sp w tP [.ref a] H (fun v _ => v = .bl true) fun _ _ _ => False)
    (noX : ∀ (w : World) (H : Hp) (s : Shared) (e : Value) (s' : Shared), CX w [] H s (fun _ _ _ => False) e s' → False) :
    PySem.W.WalkO q loose XP YP l.row.toRowW d [] (fun f vs => PySem.call f vs) := by
  refine Att.attach_call hn hdf fun w t0 t mg mb fa o pm cd doc a vals ns G Y ho hd hcd hmg own hints few gens => ?_
  have KX := hY w _ Y
  obtain ⟨c, tP, fd, h0, h1, nT, bind, goes⟩ := F w mg fa _ KX G.T.g hmg
  have hc := PySem.W.codeHd_of_K KX h0
  have tab := hTs w _ Y tP (by simpa using h1)
  have rv := vals_ints hints
  have len : ns.length = vals.length := hints.length.symm
  have sz : ns.length ≤ sizeLine := Nat.le_trans few hz
  have aP : a ≠ tP := fun z => by
    rw [z, tab] at own
    have := congrArg Obj.data (Option.some.inj own)
    cases this
  have core := fun (H : Hp) (at_ : H tP = some (.tbl #[])) (only : ∀ b, H b = none ∨ b = tP ∨ ∃ o xs, H b = some (.frz o (.lst xs))) (sq : SqL (K w.params) H a (ns.map V.int)) (ok : HOk l.prog w H t.heap) (lone : ∀ b, H b ≠ none → b = a ∨ b = tP) (notK : H a ≠ none → (K w.params).lookup a = none) =>
    script_T KX G.T.g G.T.b G.T.builtins G.T.nolimit gens tab nT hc G.T.bmain own room goes bind (fun H e s' => noX w H t e s') at_ only ok lone notK (pr w tP H a ns few at_ sq)
  cases hk : (K w.params).lookup a with
  | some ob =>
    have z := KX a ob hk
    rw [own] at z
    cases z
    refine core (fun b => if b = tP then some (.tbl #[]) else none) (if_pos rfl) (fun b => ?_) (.inr ⟨_, vals.toArray, _, hk, rfl, rfl, rfl, by rw [List.size_toArray, ← len]; exact sz, by simpa using rv⟩) (fun b u z => ?_) (fun b z => ?_) fun z => (z (if_neg aP)).elim
    · by_cases e : b = tP
      · exact .inr (.inl e)
      · exact .inl (if_neg e)
    · by_cases e : b = tP
      · subst e
        have z := (if_pos rfl).symm.trans z
        cases z
        exact tab
      · have z := (if_neg e).symm.trans z
        cases z
    · by_cases e : b = tP
      · exact .inr e
      · exact (z (if_neg e)).elim
  | none =>
    refine core (fun b => if b = a then some (.frz { cls := .type "list", data := .seq vals.toArray } (.lst (ns.map V.int))) else if b = tP then some (.tbl #[]) else none) ((if_neg aP.symm).trans (if_pos rfl)) (fun b => ?_) (.inl (.inr ⟨{ cls := .type "list", data := .seq vals.toArray }, if_pos rfl⟩)) (fun b u z => ?_) (fun b z => ?_) fun _ => hk
    · by_cases e : b = a
      · exact .inr (.inr ⟨_, _, if_pos e⟩)
      · by_cases e2 : b = tP
        · exact .inr (.inl e2)
        · exact .inl ((if_neg e).trans (if_neg e2))
    · by_cases e : b = a
      · have z := (if_pos e).symm.trans z
        cases z
        subst e
        exact ⟨own, by rw [List.length_map]; exact sz, vals, _, rv, own⟩
      · have z := (if_neg e).symm.trans z
        by_cases e2 : b = tP
        · have z := (if_pos e2).symm.trans z
          cases z
          subst e2
          exact tab
        · have z := (if_neg e2).symm.trans z
          cases z
    · by_cases e : b = a
      · exact .inl e
      · by_cases e2 : b = tP
        · exact .inr e2
        · exact (z ((if_neg e).trans (if_neg e2))).elim
end LamP

set_option Elab.async false
set_option linter.all false
set_option maxRecDepth 100000
set_option maxHeartbeats 4000000
set_option autoImplicit false
/-! sorted(xs) of a list of alike data (tuples of numbers and lists of texts, ..), `x in xs` of a list of data where none is like x -/
namespace CP
open L2 PySem PySem.W PyProof.Rows
def rSortedD (K : PySem.W.Frag) : List V → Hp → VK → Prop := fun vs H Q => ∃ (a : Addr) (xs : List V) (ds : List PyData), vs = [.ref a] ∧ SqL K H a xs ∧ DpAll K H xs ds ∧ AllAlike ds ∧ Sortable ds ∧ (∀ d ∈ ds, d.depth ≤ 60) ∧
  ∀ ys p, DpAll K H ys (ds.mergeSort (dataLe false fun d => d)) → ys.length = xs.length → H p = none → Q (.ref p) (upd H p (.lst ys))
theorem each_dp {K : PySem.W.Frag} {H : Hp} : ∀ {xs : List V} {us : List Value} {ds : List PyData}, Vals xs us → DpAll K H xs ds → EachIs (fun (u : Value) d => ∃ y, RelV y u ∧ Dp K H y d) us ds
  | _, _, [], .nil, h => by cases h; exact .nil
  | _, _, d :: ds, .cons r t, h => by
    cases h with
    | cons h1 h2 => exact .cons ⟨_, r, h1⟩ (each_dp t h2)
theorem dp_each {K : PySem.W.Frag} {H : Hp} : ∀ {us : List Value} {ds : List PyData}, EachIs (fun (u : Value) d => ∃ y, RelV y u ∧ Dp K H y d) us ds → ∃ ys, Vals ys us ∧ DpAll K H ys ds
  | [], [], .nil => ⟨[], .nil, .nil⟩
  | u :: us, d :: ds, .cons ⟨y, r, h⟩ t => by
    obtain ⟨ys, a, b⟩ := dp_each t
    exact ⟨y :: ys, .cons r a, .cons h b⟩
theorem cr_sortedD {X : Cx} (hu : X.A.units + 64 < cLine) : CallR X (.builtin "sorted") (rSortedD X.K) := by
  intro pins s σ H vs us Q I r h
  obtain ⟨a, xs, ds, rfl, hs, dp, hal, hk, dpt, q⟩ := h
  obtain ⟨its, rv, hl, hz⟩ := I.list hs
  rw [Vals.ref1 r]
  have e := each_dp rv dp
  have er : EachIs (fun v d => ∃ as, Reads s.heap v d as) its ds := e.mono fun _ _ ⟨y, rr, d⟩ => Dp.reads I _ _ _ d rr
  have lx := rv.length
  have ld := e.length
  refine sorted_data (bs := ds) (enc := fun d => d) hl.isList e er (by rw [List.map_id']; exact hal) (by rw [List.map_id']; exact hk) (by omega) (fun d hd => by have := dpt d hd; omega) fun out ol eo => ?_
  obtain ⟨ys, rv2, dp2⟩ := dp_each eo
  obtain ⟨ep, he'⟩ := PyProof.Rows.sortedAll_at s.heap its out.toArray
  have l2 := rv2.length
  have hlen : ys.length ≤ sizeLine := by omega
  exact ⟨.ref _, upd H (s.heap.objs.size + 1) (.lst ys), I.laid (t' := s.toks) (fun _ _ => PyProof.Rows.sortedAll_old) (Nat.le_succ _) ⟨hlen, out, ep, rv2, by simpa using he'⟩, rfl, q ys _ dp2 (by omega) (I.hok.fresh (Nat.le_succ _))⟩
/-- x is in the list xs of data (neg: is not in it), where no item is like x -/
def rInD (K : PySem.W.Frag) (neg : Bool) : R2 := fun x y H Q => ∃ p xs d ds, y = .ref p ∧ SqL K H p xs ∧ Dp K H x d ∧ DpAll K H xs ds ∧ SeqAt.shaped d = true ∧ (∀ e ∈ ds, SeqAt.shaped e = true ∧ e.depth ≤ 60 ∧ PyData.eqv e d = false) ∧ Q (.bl neg) H
theorem inD_at {X : Cx} {pins : List (Addr × Obj)} {σ : L2.St} {H : Hp} {s : Shared} (hu : X.A.units + 64 < cLine) (I : Inv X pins σ H s) {x : V} {v : Value} (rx : RelV x v) {d : PyData} (hd : Dp X.K H x d) (sd : SeqAt.shaped d = true) : ∀ {xs : List V} {us : List Value} {ds : List PyData}, Vals xs us → DpAll X.K H xs ds → (∀ e ∈ ds, SeqAt.shaped e = true ∧ e.depth ≤ 60 ∧ PyData.eqv e d = false) → ∀ u ∈ us, SeqAt.EqAt X.A.in1 s u v false
  | _, _, [], .nil, h, _, u, hu2 => by cases hu2
  | _, _, e :: ds, .cons r t, h, no, u, hu2 => by
    cases h with
    | cons h1 h2 =>
    rcases List.mem_cons.mp hu2 with rfl | m
    · obtain ⟨se, dp, ne⟩ := no e (List.mem_cons_self ..)
      obtain ⟨as, r1⟩ := Dp.reads I d x v hd rx
      obtain ⟨bs, r2⟩ := Dp.reads I e _ _ h1 r
      rw [← ne]
      exact SeqAt.eqAt_reads e d X.A.in1 s _ v bs as r2 r1 (SeqAt.canLay_of_shaped se) (SeqAt.canLay_of_shaped sd) (by have h2 : min e.depth d.depth ≤ e.depth := Nat.min_le_left _ _; show X.A.units + 1 + _ < cLine; omega)
    · exact inD_at hu I rx hd sd t h2 (fun e he => no e (List.mem_cons_of_mem _ he)) u m
theorem op_inD {X : Cx} (hu : X.A.units + 64 < cLine) : OpR X (compareOp .In) (rInD X.K false) := by
  intro pins s σ H x y v u Q I rx ry h
  obtain ⟨p, xs, d, ds, rfl, hq, hd, hds, sd, no, q⟩ := h
  cases ry
  obtain ⟨its, r, pl, hz⟩ := I.list hq
  refine SeqAt.in_listAt (fun _ => false) pl.isList (fun w hw => inD_at hu I rx hd sd r hds no w (by simpa using hw)) ⟨.bl _, H, I, rfl, ?_⟩
  rw [show its.toArray.any (fun _ => false) = false by simp]
  exact q
end CP

set_option Elab.async false
set_option linter.all false
set_option maxRecDepth 100000
set_option maxHeartbeats 4000000
set_option autoImplicit false
/-! forms in lowest terms, worth a whole form over a known divisor: sums do not make the divisors grow -/
namespace CP
open L2 PySem PyProof.Rows
/-! ### how many products there are -/
/-- all rows of n counts with a sum of at most d -/
def vecs : Nat → Nat → List (List Nat)
  | 0, _ => [[]]
  | n + 1, d => (List.range (d + 1)).flatMap fun k => (vecs n (d - k)).map fun v => k :: v
theorem mem_vecs : ∀ {n d : Nat} {v : List Nat}, v.length = n → v.sum ≤ d → v ∈ vecs n d
  | 0, d, [], _, _ => List.mem_singleton.mpr rfl
  | n + 1, d, k :: v, h, s => by
    rw [List.sum_cons] at s
    unfold vecs
    refine List.mem_flatMap.mpr ⟨k, List.mem_range.mpr (by omega), List.mem_map.mpr ⟨v, mem_vecs (by simpa using h) (by omega), rfl⟩⟩
def cntV (L p : List Str) : List Nat := L.map fun w => p.count w
theorem cntV_sum {L : List Str} (nd : L.Nodup) : ∀ p : List Str, (cntV L p).sum ≤ p.length
  | [] => by
    have : cntV L [] = L.map fun _ => 0 := rfl
    rw [this]
    clear nd this
    induction L with
    | nil => simp
    | cons w L ih => rw [List.map_cons, List.sum_cons]; simpa using ih
  | x :: p => by
    have ih := cntV_sum nd p
    have step : ∀ M : List Str, M.Nodup → (M.map fun w => (x :: p).count w).sum ≤ (M.map fun w => p.count w).sum + (if x ∈ M then 1 else 0) := fun M => by
      induction M with
      | nil => intro _; simp
      | cons w M ihM =>
        intro ndM
        obtain ⟨nw, ndM⟩ := List.nodup_cons.mp ndM
        have i2 := ihM ndM
        rw [List.map_cons, List.sum_cons, List.map_cons, List.sum_cons, List.count_cons]
        by_cases e : x = w
        · subst e
          rw [if_neg nw] at i2
          rw [if_pos (by simp), if_pos (List.mem_cons_self ..)]
          omega
        · rw [if_neg (by simpa using e)]
          by_cases m : x ∈ M
          · rw [if_pos m] at i2
            rw [if_pos (List.mem_cons_of_mem _ m)]
            omega
          · rw [if_neg m] at i2
            rw [if_neg fun z => (List.mem_cons.mp z).elim e m]
            omega
    have s := step L nd
    unfold cntV at ih ⊢
    rw [List.length_cons]
    split at s <;> omega
theorem cntV_inj {L p q : List Str} (hp : ∀ w ∈ p, w ∈ L) (hq : ∀ w ∈ q, w ∈ L) (sp : srt p = p) (sq : srt q = q) (e : cntV L p = cntV L q) : p = q := by
  have cnt : ∀ w ∈ L, p.count w = q.count w := fun w hw => by
    obtain ⟨i, il, ei⟩ := List.mem_iff_getElem.mp hw
    have := congrArg (fun l => l[i]?) e
    unfold cntV at this
    simp only [List.getElem?_map, List.getElem?_eq_getElem il, Option.map_some, ei] at this
    exact Option.some.inj this
  have pm : p.Perm q := List.perm_iff_count.mpr fun w => by
    by_cases hw : w ∈ L
    · exact cnt w hw
    · rw [List.count_eq_zero.mpr fun z => hw (hp w z), List.count_eq_zero.mpr fun z => hw (hq w z)]
  rw [← sp, ← sq]
  exact srt_congr pm
theorem nodup_map_on {α β : Type} {f : α → β} : ∀ {l : List α}, (∀ x ∈ l, ∀ y ∈ l, f x = f y → x = y) → l.Nodup → (l.map f).Nodup
  | [], _, _ => by simp
  | a :: l, inj, nd => by
    obtain ⟨na, nd⟩ := List.nodup_cons.mp nd
    rw [List.map_cons]
    refine List.nodup_cons.mpr ⟨fun z => ?_, nodup_map_on (fun x hx y hy => inj x (List.mem_cons_of_mem _ hx) y (List.mem_cons_of_mem _ hy)) nd⟩
    obtain ⟨b, hb, e⟩ := List.mem_map.mp z
    have := inj b (List.mem_cons_of_mem _ hb) a (List.mem_cons_self ..) e
    exact na (by rw [← this]; exact hb)
theorem len_sub {α : Type} [DecidableEq α] : ∀ {l m : List α}, l.Nodup → (∀ x ∈ l, x ∈ m) → l.length ≤ m.length
  | [], _, _, _ => Nat.zero_le _
  | a :: l, m, nd, h => by
    obtain ⟨na, nd⟩ := List.nodup_cons.mp nd
    have am := h a (List.mem_cons_self ..)
    have := len_sub (l := l) (m := m.erase a) nd fun x hx => (List.mem_erase_of_ne fun e => na (by rw [← e]; exact hx)).mpr (h x (List.mem_cons_of_mem _ hx))
    rw [List.length_erase_of_mem am] at this
    have := List.length_pos_of_mem am
    rw [List.length_cons]
    omega
theorem few_prods {L : List Str} {d : Nat} {ks : List (List Str)} (ndL : L.Nodup) (nd : ks.Nodup) (h : ∀ p ∈ ks, (∀ w ∈ p, w ∈ L) ∧ p.length ≤ d ∧ srt p = p) : ks.length ≤ (vecs L.length d).length := by
  have := len_sub (l := ks.map (cntV L)) (m := vecs L.length d) (nodup_map_on (fun x hx y hy e => cntV_inj (h x hx).1 (h y hy).1 (h x hx).2.2 (h y hy).2.2 e) nd) fun v hv => by
    obtain ⟨p, hp, rfl⟩ := List.mem_map.mp hv
    exact mem_vecs (by unfold cntV; rw [List.length_map]) (Nat.le_trans (cntV_sum ndL p) (h p hp).2.1)
  rw [List.length_map] at this
  exact this
theorem vecs_mono : ∀ {n d e : Nat}, d ≤ e → (vecs n d).length ≤ (vecs n e).length
  | 0, _, _, _ => Nat.le_refl _
  | n + 1, d, e, h => by
    have flat : ∀ (k : Nat), ((List.range k).flatMap fun j => (vecs n (d - j)).map fun v => j :: v).length ≤ ((List.range k).flatMap fun j => (vecs n (e - j)).map fun v => j :: v).length := fun k => by
      induction k with
      | zero => simp
      | succ k ih =>
        rw [List.range_succ, List.flatMap_append, List.flatMap_append, List.length_append, List.length_append]
        have := vecs_mono (n := n) (d := d - k) (e := e - k) (by omega)
        simp only [List.flatMap_cons, List.flatMap_nil, List.append_nil, List.length_map]
        omega
    have grow : ∀ (a b : Nat), a ≤ b → ((List.range a).flatMap fun j => (vecs n (e - j)).map fun v => j :: v).length ≤ ((List.range b).flatMap fun j => (vecs n (e - j)).map fun v => j :: v).length := fun a b ab => by
      induction b with
      | zero => rw [show a = 0 by omega]; exact Nat.le_refl _
      | succ b ih =>
        by_cases z : a = b + 1
        · rw [z]; exact Nat.le_refl _
        · have := ih (by omega)
          rw [List.range_succ, List.flatMap_append, List.length_append]
          omega
    unfold vecs
    exact Nat.le_trans (flat _) (grow _ _ (by omega))
theorem vecs_up : ∀ {n d : Nat}, (vecs n d).length ≤ (vecs (n + 1) d).length := fun {n d} => by
  show _ ≤ ((List.range (d + 1)).flatMap fun k => (vecs n (d - k)).map fun v => k :: v).length
  rw [List.range_succ_eq_map, List.flatMap_cons, List.length_append, List.length_map, Nat.sub_zero]
  omega
theorem vecs_mono2 {n m d e : Nat} (h1 : n ≤ m) (h2 : d ≤ e) : (vecs n d).length ≤ (vecs m e).length := by
  refine Nat.le_trans (vecs_mono h2) ?_
  obtain ⟨k, rfl⟩ := Nat.exists_eq_add_of_le h1
  clear h1
  induction k with
  | zero => exact Nat.le_refl _
  | succ k ih => exact Nat.le_trans ih vecs_up
/-! ### lowest terms -/
theorem divM_great : ∀ {rs : List Tm} {u c : Int}, c ∣ u → (∀ r ∈ rs, c ∣ r.2) → c ∣ divM rs u
  | [], _, _, h, _ => h
  | r :: rs, u, c, h, k => by
    show c ∣ divM rs (Int.gcd u r.2 : Nat)
    exact divM_great (Int.dvd_coe_gcd h (k r (List.mem_cons_self ..))) fun s hs => k s (List.mem_cons_of_mem _ hs)
/-- nothing divides all that stands in a form -/
def Red (f : Fm) : Prop := ∀ c : Int, c ∣ f.2 → (∀ r ∈ f.1, c ∣ r.2) → c ∣ 1
theorem made_red {rs : List Tm} {u : Int} (h : 0 < u) : Red (madeM rs u) := fun c h1 h2 => by
  obtain ⟨g1, _⟩ := divM_pos (rs := keptM rs) h
  obtain ⟨d1, d2⟩ := divM_dvd (keptM rs) u
  have z : c * divM (keptM rs) u ∣ divM (keptM rs) u := divM_great (by
      have : c ∣ u / divM (keptM rs) u := h1
      have := Int.mul_dvd_mul_right (divM (keptM rs) u) this
      rwa [Int.ediv_mul_cancel d1] at this) fun r hr => by
    have : c ∣ r.2 / divM (keptM rs) u := h2 _ (List.mem_map.mpr ⟨r, hr, rfl⟩)
    have := Int.mul_dvd_mul_right (divM (keptM rs) u) this
    rwa [Int.ediv_mul_cancel (d2 r hr)] at this
  obtain ⟨k, hk⟩ := z
  refine ⟨k, ?_⟩
  have : divM (keptM rs) u * 1 = divM (keptM rs) u * (c * k) := by
    rw [Int.mul_one]
    conv => lhs; rw [hk]
    grind
  exact Int.eq_of_mul_eq_mul_left (by omega) this
theorem lin_abs {φ : List Str → Int} (h : ∀ p, (φ p).natAbs ≤ 1) : ∀ rs : List Tm, (lin φ rs).natAbs ≤ nrm rs
  | [] => Nat.le_refl _
  | r :: rs => by
    have i := lin_abs h rs
    rw [lin_cons, nrm_cons]
    have a : (r.2 * φ r.1).natAbs ≤ r.2.natAbs := by
      rw [Int.natAbs_mul]
      exact Nat.le_trans (Nat.mul_le_mul_left _ (h r.1)) (by omega)
    omega
/-- letters among L, degree at most d, in lowest terms, worth a whole form of norm at most n over N -/
structure Fx (L : List Str) (d n N : Nat) (f : Fm) : Prop where
  nd : (f.1.map (·.1)).Nodup
  no0 : ∀ r ∈ f.1, r.2 ≠ 0
  keys : ∀ p ∈ f.1.map (·.1), (∀ w ∈ p, w ∈ L) ∧ p.length ≤ d ∧ srt p = p
  pos : 0 < f.2
  posN : 0 < N
  red : Red f
  top : ∃ rs : List Tm, nrm rs ≤ n ∧ ∀ φ, lin φ f.1 * N = lin φ rs * f.2
section
variable {L : List Str} {d n N : Nat} {f g : Fm}
theorem Fx.fq (h : Fx L d n N f) : Fq L f.1.length d (nrm f.1) f.2.natAbs f := by
  refine ⟨h.nd, h.no0, h.keys, Nat.le_refl _, Nat.lt_two_pow_self, h.pos, ?_⟩
  have := h.pos
  have l : f.2.natAbs < 2 ^ f.2.natAbs := Nat.lt_two_pow_self
  generalize 2 ^ f.2.natAbs = z at l
  omega
theorem Fx.dvd (h : Fx L d n N f) : f.2 ∣ (N : Int) := by
  obtain ⟨rs, _, e⟩ := h.top
  obtain ⟨u, hu⟩ : ∃ u : Nat, f.2 = (u : Int) := ⟨f.2.toNat, by have := h.pos; omega⟩
  have u0 : 0 < u := by have := h.pos; omega
  have g0 : 0 < Nat.gcd u N := Nat.gcd_pos_of_pos_left _ u0
  obtain ⟨u', eu⟩ : Nat.gcd u N ∣ u := Nat.gcd_dvd_left ..
  obtain ⟨N', eN⟩ : Nat.gcd u N ∣ N := Nat.gcd_dvd_right ..
  have co : Nat.Coprime u' N' := by
    have := Nat.coprime_div_gcd_div_gcd g0
    rwa [Nat.div_eq_of_eq_mul_right g0 eu, Nat.div_eq_of_eq_mul_right g0 eN] at this
  have all : ∀ r ∈ f.1, (u' : Int) ∣ r.2 := fun r hr => by
    have el := e (fun q => if q = r.1 then 1 else 0)
    rw [lin_delta r.1 h.nd, getT_mem h.nd hr, hu] at el
    have d1 : u ∣ (r.2 * (N : Int)).natAbs := by
      have : (u : Int) ∣ r.2 * (N : Int) := ⟨_, by rw [el, Int.mul_comm]⟩
      exact Int.ofNat_dvd_left.mp this
    rw [Int.natAbs_mul, Int.natAbs_natCast] at d1
    have d2 : u' ∣ r.2.natAbs * N' := by
      obtain ⟨k, hk⟩ := d1
      refine ⟨k, Nat.eq_of_mul_eq_mul_left g0 ?_⟩
      calc Nat.gcd u N * (r.2.natAbs * N') = r.2.natAbs * (Nat.gcd u N * N') := by rw [Nat.mul_left_comm]
        _ = r.2.natAbs * N := by rw [← eN]
        _ = u * k := hk
        _ = Nat.gcd u N * u' * k := by rw [← eu]
        _ = Nat.gcd u N * (u' * k) := by rw [Nat.mul_assoc]
    exact Int.ofNat_dvd_left.mpr (co.dvd_of_dvd_mul_right d2)
  have one : (u' : Int) ∣ 1 := h.red u' (by rw [hu, eu]; exact ⟨(Nat.gcd u N : Int), by rw [Int.natCast_mul, Int.mul_comm]⟩) all
  have u1 : u' = 1 := by
    have : u' ∣ 1 := by exact_mod_cast one
    exact Nat.dvd_one.mp this
  rw [u1, Nat.mul_one] at eu
  rw [hu]
  exact Int.natCast_dvd_natCast.mpr (by rw [eu]; exact Nat.gcd_dvd_right u N)
theorem Fx.le (h : Fx L d n N f) : f.2 ≤ (N : Int) := Int.le_of_dvd (by have := h.posN; omega) h.dvd
theorem Fx.num (h : Fx L d n N f) : ∀ r ∈ f.1, r.2.natAbs ≤ n := fun r hr => by
  obtain ⟨rs, l, e⟩ := h.top
  have el := e (fun q => if q = r.1 then 1 else 0)
  rw [lin_delta r.1 h.nd, getT_mem h.nd hr] at el
  have a := lin_abs (φ := fun q => if q = r.1 then 1 else 0) (fun p => by show (if p = r.1 then (1 : Int) else 0).natAbs ≤ 1; split <;> decide) rs
  generalize lin (fun q => if q = r.1 then 1 else 0) rs = c at el a
  have c2 := congrArg Int.natAbs el
  rw [Int.natAbs_mul, Int.natAbs_mul, Int.natAbs_natCast] at c2
  have le := h.le
  have u1 : f.2.natAbs ≤ N := by have := h.pos; omega
  have N0 := h.posN
  refine Nat.le_of_mul_le_mul_right ?_ N0
  rw [c2]
  exact Nat.mul_le_mul (Nat.le_trans a l) u1
theorem Fx.ok (h : Fx L d n N f) (ndL : L.Nodup) (hL : ∀ w ∈ L, letB w = true) {m e : Nat} (hm : L.length ≤ m) (he : d ≤ e) (few : (vecs m e).length ≤ 1000) (hd : d ≤ 1000) (hn : n < 2 ^ 200) (hN : N < 2 ^ 200) : FOk f := by
  refine ⟨h.nd, ?_, fun r hr => ?_, fun r hr => ?_, h.pos, ?_⟩
  · have := few_prods ndL h.nd h.keys
    rw [List.length_map] at this
    exact Nat.le_trans this (Nat.le_trans (vecs_mono2 hm he) few)
  · have k := h.keys r.1 (List.mem_map_of_mem hr)
    exact ⟨fun w hw => hL w (k.1 w hw), by have := k.2.1; omega⟩
  · exact Nat.lt_of_le_of_lt (h.num r hr) (Nat.lt_of_lt_of_le hn (Nat.pow_le_pow_right (by decide) (by decide)))
  · have := h.le
    omega
theorem Fx.up {M : List Str} {e m k : Nat} (h : Fx L d n N f) (hL : ∀ w ∈ L, w ∈ M) (hd : d ≤ e) (k0 : 0 < k) (hn : n * k ≤ m) : Fx M e m (N * k) f := by
  obtain ⟨rs, l, e2⟩ := h.top
  refine ⟨h.nd, h.no0, fun p hp => let ⟨a, b, c⟩ := h.keys p hp; ⟨fun w hw => hL w (a w hw), Nat.le_trans b hd, c⟩, h.pos, Nat.mul_pos h.posN k0, h.red, rs.map fun r => (r.1, r.2 * (k : Int)), ?_, fun φ => ?_⟩
  · rw [nrm_times, Int.natAbs_natCast, Nat.mul_comm]
    exact Nat.le_trans (Nat.mul_le_mul_right k l) hn
  · rw [lin_times, Int.natCast_mul]
    have := e2 φ
    grind
/-- a form that is made, worth this -/
theorem Fx.made {R : List Tm} {u : Int} (nd : (R.map (·.1)).Nodup) (keys : ∀ p ∈ R.map (·.1), (∀ w ∈ p, w ∈ L) ∧ p.length ≤ d ∧ srt p = p) (pos : 0 < u) (N0 : 0 < N) (top : ∃ rs : List Tm, nrm rs ≤ n ∧ ∀ φ, lin φ R * N = lin φ rs * u) : Fx L d n N (madeM R u) := by
  have q : Fq L R.length d (nrm R) u.natAbs (madeM R u) := Fq.made nd keys (Nat.le_refl _) Nat.lt_two_pow_self pos (by
    have l : u.natAbs < 2 ^ u.natAbs := Nat.lt_two_pow_self
    generalize 2 ^ u.natAbs = z at l
    omega)
  obtain ⟨rs, l, e⟩ := top
  refine ⟨q.nd, q.no0, q.keys, q.pos, N0, made_red pos, rs, l, fun φ => ?_⟩
  have m := made_lin (rs := R) (u := u) φ
  have t := e φ
  refine Int.eq_of_mul_eq_mul_right (a := u) (by omega) ?_
  grind
theorem Fx.one {w : Str} (h : w ∈ L) : Fx L 1 1 1 ([([w], 1)], 1) := by
  have q : Fq L 1 1 1 1 ([([w], 1)], 1) := Fq.one h
  exact ⟨q.nd, q.no0, q.keys, q.pos, by decide, fun c h1 _ => h1, [([w], 1)], by simp [nrm], fun φ => by simp [lin]⟩
theorem Fx.numb (k : Int) : Fx L 0 k.natAbs 1 (madeM [([], k)] 1) :=
  Fx.made (by simp) (fun p hp => by rw [show p = [] by simpa using hp]; exact ⟨by simp, by simp, rfl⟩) (by decide) (by decide) ⟨[([], k)], by simp [nrm], fun φ => by simp⟩
theorem Fx.zero : Fx L 0 0 1 (madeM [] 1) := Fx.made (by simp) (by simp) (by decide) (by decide) ⟨[], by simp [nrm], fun φ => by simp⟩
theorem Fx.neg (h : Fx L d n N f) : Fx L d n N (negM f) := by
  have q := h.fq.neg
  obtain ⟨rs, l, e⟩ := h.top
  refine ⟨q.nd, q.no0, q.keys, q.pos, h.posN, fun c h1 h2 => h.red c h1 fun r hr => ?_, rs.map fun r => (r.1, 0 - r.2), by rw [nrm_neg]; exact l, fun φ => ?_⟩
  · have : c ∣ 0 - r.2 := h2 _ (List.mem_map.mpr ⟨r, hr, rfl⟩)
    rw [Int.zero_sub] at this
    exact (Int.dvd_neg).mp this
  · show lin φ (f.1.map fun r => (r.1, 0 - r.2)) * N = _ * f.2
    rw [lin_neg, lin_neg]
    have := e φ
    grind
theorem Fx.add {m : Nat} (h : Fx L d n N f) (k : Fx L d m N g) : Fx L d (n + m) N (addM f g) := by
  have q := h.fq.add k.fq (b := nrm f.1 + g.2.natAbs + nrm g.1 + f.2.natAbs + 1) (by omega) (by omega)
  obtain ⟨rs, l, e⟩ := h.top
  obtain ⟨ss, l2, e2⟩ := k.top
  have p : 0 < f.2 * g.2 := Int.mul_pos h.pos k.pos
  refine ⟨q.nd, q.no0, q.keys, q.pos, h.posN, made_red p, rs ++ ss, ?_, fun φ => ?_⟩
  · have : nrm (rs ++ ss) = nrm rs + nrm ss := by unfold nrm; rw [List.map_append, List.sum_append]
    omega
  · have m := made_lin (rs := addR f g) (u := f.2 * g.2) φ
    rw [lin_addR φ h.nd] at m
    have a := e φ
    have b := e2 φ
    rw [lin_app]
    show lin φ (madeM (addR f g) (f.2 * g.2)).1 * N = _ * (madeM (addR f g) (f.2 * g.2)).2
    refine Int.eq_of_mul_eq_mul_right (a := f.2 * g.2) (by omega) ?_
    generalize lin φ (madeM (addR f g) (f.2 * g.2)).1 = A at *
    generalize (madeM (addR f g) (f.2 * g.2)).2 = B at *
    grind
/-- all products of two rows -/
def prodR (rs ss : List Tm) : List Tm := rs.flatMap fun a => ss.map fun b => (srt (a.1 ++ b.1), a.2 * b.2)
theorem lin_rowX (φ : List Str → Int) (a : Tm) : ∀ ss : List Tm, lin φ (ss.map fun b => (srt (a.1 ++ b.1), a.2 * b.2)) = a.2 * lin (fun q => φ (srt (a.1 ++ q))) ss
  | [] => by simp [lin]
  | b :: ss => by
    rw [List.map_cons, lin_cons, lin_cons, lin_rowX φ a ss]
    grind
theorem lin_prodR (φ : List Str → Int) (ss : List Tm) : ∀ rs : List Tm, lin φ (prodR rs ss) = lin (fun p => lin (fun q => φ (srt (p ++ q))) ss) rs
  | [] => rfl
  | a :: rs => by
    have i := lin_prodR φ ss rs
    unfold prodR at i ⊢
    rw [List.flatMap_cons, lin_app, lin_rowX, lin_cons, i]
theorem nrm_prodR (ss : List Tm) : ∀ rs : List Tm, nrm (prodR rs ss) = nrm rs * nrm ss
  | [] => by show (0 : Nat) = 0 * _; omega
  | a :: rs => by
    have i := nrm_prodR ss rs
    unfold prodR at i ⊢
    have app : ∀ x y : List Tm, nrm (x ++ y) = nrm x + nrm y := fun x y => by unfold nrm; rw [List.map_append, List.sum_append]
    have row : nrm (ss.map fun b => (srt (a.1 ++ b.1), a.2 * b.2)) = a.2.natAbs * nrm ss := by
      clear i
      induction ss with
      | nil => simp [nrm]
      | cons b ss ih => rw [List.map_cons, nrm_cons, nrm_cons, ih, Int.natAbs_mul, Nat.mul_add]
    rw [List.flatMap_cons, app, row, i, nrm_cons, Nat.add_mul]
theorem lin_scale (φ : List Str → Int) (c : Int) : ∀ rs : List Tm, lin (fun p => φ p * c) rs = lin φ rs * c
  | [] => by rw [lin_nil, lin_nil, Int.zero_mul]
  | r :: rs => by
    rw [lin_cons, lin_cons, lin_scale φ c rs]
    grind
theorem Fx.mul {e m M : Nat} (h : Fx L d n N f) (k : Fx L e m M g) : Fx L (d + e) (n * m) (N * M) (mulM f g) := by
  have q := h.fq.mul k.fq
  obtain ⟨rs, l, e1⟩ := h.top
  obtain ⟨ss, l2, e2⟩ := k.top
  have p : 0 < f.2 * g.2 := Int.mul_pos h.pos k.pos
  refine ⟨q.nd, q.no0, q.keys, q.pos, Nat.mul_pos h.posN k.posN, made_red p, prodR rs ss, ?_, fun φ => ?_⟩
  · rw [nrm_prodR]
    exact Nat.mul_le_mul l l2
  · have m := made_lin (rs := mulR f.1 g.1) (u := f.2 * g.2) φ
    have lm : lin φ (mulR f.1 g.1) = lin (fun p => lin (fun q => φ (srt (p ++ q))) g.1) f.1 := by
      have := lin_mulR φ g.1 f.1 []
      rw [lin_nil, Int.zero_add] at this
      exact this
    rw [lm] at m
    have a := e1 fun p => lin (fun q => φ (srt (p ++ q))) g.1
    have b : lin (fun p => lin (fun q => φ (srt (p ++ q))) g.1) rs * (M : Int) = lin (fun p => lin (fun q => φ (srt (p ++ q))) ss) rs * g.2 := by
      rw [← lin_scale, ← lin_scale]
      congr 1
      funext p
      exact e2 fun q => φ (srt (p ++ q))
    rw [lin_prodR]
    show lin φ (madeM (mulR f.1 g.1) (f.2 * g.2)).1 * _ = _ * (madeM (mulR f.1 g.1) (f.2 * g.2)).2
    refine Int.eq_of_mul_eq_mul_right (a := f.2 * g.2) (by omega) ?_
    rw [Int.natCast_mul]
    generalize lin φ (madeM (mulR f.1 g.1) (f.2 * g.2)).1 = A at *
    generalize (madeM (mulR f.1 g.1) (f.2 * g.2)).2 = B at *
    generalize lin (fun p => lin (fun q => φ (srt (p ++ q))) g.1) f.1 = C at *
    generalize lin (fun p => lin (fun q => φ (srt (p ++ q))) g.1) rs = D at *
    generalize lin (fun p => lin (fun q => φ (srt (p ++ q))) ss) rs = E at *
    have h1 : A * (↑N * ↑M) * (f.2 * g.2) = (A * (f.2 * g.2)) * (↑N * ↑M) := by grind
    rw [h1, m]
    have h2 : C * B * (↑N * ↑M) = (C * ↑N) * ↑M * B := by grind
    rw [h2, a]
    have h3 : D * f.2 * ↑M * B = (D * ↑M) * (f.2 * B) := by grind
    rw [h3, b]
    grind
theorem Fx.over {k : Nat} (h : Fx L d n N f) (k0 : 0 < k) : Fx L d n (N * k) (overM f (k : Int)) := by
  have e : overM f (k : Int) = madeM f.1 (f.2 * (k : Int)) := by
    unfold overM
    rw [if_pos (by omega), Int.natAbs_natCast]
  rw [e]
  obtain ⟨rs, l, e1⟩ := h.top
  refine Fx.made h.nd h.keys (Int.mul_pos h.pos (by omega)) (Nat.mul_pos h.posN k0) ⟨rs, l, fun φ => ?_⟩
  have := e1 φ
  rw [Int.natCast_mul]
  grind
end
end CP

set_option Elab.async false
set_option linter.all false
set_option maxRecDepth 100000
set_option maxHeartbeats 4000000
set_option autoImplicit false
/-! forms that are worth the same at all whole numbers are the same -/
namespace CP
open L2 PySem PyProof.Rows
/-! ### sums of powers of one number -/
def pwS (f : Int × Nat → Int) (l : List (Int × Nat)) : Int := (l.map f).sum
theorem pwS_cons (f : Int × Nat → Int) (r : Int × Nat) (l : List (Int × Nat)) : pwS f (r :: l) = f r + pwS f l := by
  unfold pwS
  rw [List.map_cons, List.sum_cons]
theorem pwS_split (f : Int × Nat → Int) (m : Nat) : ∀ l : List (Int × Nat), pwS f l = pwS f (l.filter fun r => decide (r.2 = m)) + pwS f (l.filter fun r => !decide (r.2 = m))
  | [] => rfl
  | r :: l => by
    rw [pwS_cons, pwS_split f m l, List.filter_cons, List.filter_cons]
    by_cases e : r.2 = m
    · rw [if_pos (by simpa using e), if_neg (by simpa using e), pwS_cons]; omega
    · rw [if_neg (by simpa using e), if_pos (by simpa using e), pwS_cons]; omega
theorem pwS_top (g : Nat → Int) (m : Nat) : ∀ l : List (Int × Nat), (∀ r ∈ l, r.2 = m) → pwS (fun r => r.1 * g r.2) l = pwS (fun r => r.1) l * g m
  | [], _ => by unfold pwS; simp
  | r :: l, h => by
    rw [pwS_cons, pwS_cons, pwS_top g m l fun s hs => h s (List.mem_cons_of_mem _ hs), h r (List.mem_cons_self ..), Int.add_mul]
def absS (l : List (Int × Nat)) : Nat := (l.map fun r => r.1.natAbs).sum
theorem absS_cons (r : Int × Nat) (l : List (Int × Nat)) : absS (r :: l) = r.1.natAbs + absS l := by
  unfold absS
  rw [List.map_cons, List.sum_cons]
theorem absS_filter (p : Int × Nat → Bool) : ∀ l : List (Int × Nat), absS (l.filter p) ≤ absS l
  | [] => Nat.le_refl _
  | r :: l => by
    have := absS_filter p l
    rw [List.filter_cons]
    split
    · rw [absS_cons, absS_cons]; omega
    · rw [absS_cons]; omega
theorem pwS_small (B m : Nat) (b : 1 ≤ B) : ∀ l : List (Int × Nat), (∀ r ∈ l, r.2 ≤ m) → (pwS (fun r => r.1 * ((B ^ r.2 : Nat) : Int)) l).natAbs ≤ absS l * B ^ m
  | [], _ => by unfold pwS; simp
  | r :: l, h => by
    have ih := pwS_small B m b l fun s hs => h s (List.mem_cons_of_mem _ hs)
    rw [pwS_cons, absS_cons, Nat.add_mul]
    have a : (r.1 * ((B ^ r.2 : Nat) : Int)).natAbs ≤ r.1.natAbs * B ^ m := by
      rw [Int.natAbs_mul, Int.natAbs_natCast]
      exact Nat.mul_le_mul_left _ (Nat.pow_le_pow_right b (h r (List.mem_cons_self ..)))
    omega
theorem pw_zero : ∀ (m : Nat) (l : List (Int × Nat)), (∀ r ∈ l, r.2 < m) → (∀ B : Nat, 1 ≤ B → pwS (fun r => r.1 * ((B ^ r.2 : Nat) : Int)) l = 0) → ∀ g : Nat → Int, pwS (fun r => r.1 * g r.2) l = 0
  | 0, l, h, _, g => by
    cases l with
    | nil => rfl
    | cons r l => exact absurd (h r (List.mem_cons_self ..)) (by omega)
  | m + 1, l, h, hz, g => by
    have h1 : ∀ r ∈ l.filter (fun r => decide (r.2 = m)), r.2 = m := fun r hr => by simpa using (List.mem_filter.mp hr).2
    have h2 : ∀ r ∈ l.filter (fun r => !decide (r.2 = m)), r.2 < m := fun r hr => by
      have a := h r (List.mem_filter.mp hr).1
      have b := (List.mem_filter.mp hr).2
      simp only [Bool.not_eq_true', decide_eq_false_iff_not] at b
      omega
    have ab := absS_filter (fun r => !decide (r.2 = m)) l
    have sp := fun f => pwS_split f m l
    generalize l.filter (fun r => decide (r.2 = m)) = A at *
    generalize l.filter (fun r => !decide (r.2 = m)) = C at *
    have c0 : pwS (fun r => r.1) A = 0 := by
      refine Classical.byContradiction fun n => ?_
      have z := hz (1 + absS C) (by omega)
      rw [sp, pwS_top (fun e => (((1 + absS C) ^ e : Nat) : Int)) m A h1] at z
      have z2 : (pwS (fun r => r.1) A * (((1 + absS C) ^ m : Nat) : Int)).natAbs = (pwS (fun r => r.1 * (((1 + absS C) ^ r.2 : Nat) : Int)) C).natAbs := by omega
      rw [Int.natAbs_mul, Int.natAbs_natCast] at z2
      have big : (1 + absS C) ^ m ≤ (pwS (fun r => r.1) A).natAbs * (1 + absS C) ^ m := Nat.le_mul_of_pos_left _ (by omega)
      cases m with
      | zero =>
        have : C = [] := by
          cases C with
          | nil => rfl
          | cons r C => exact absurd (h2 r (List.mem_cons_self ..)) (by omega)
        rw [this] at z2
        simp [pwS, absS] at z2
        exact n z2
      | succ k =>
        have sm := pwS_small (1 + absS C) k (by omega) C fun r hr => by have := h2 r hr; omega
        have p : 0 < (1 + absS C) ^ k := Nat.pow_pos (by omega)
        rw [Nat.pow_succ, Nat.mul_comm ((1 + absS C) ^ k)] at big z2
        have : absS C * (1 + absS C) ^ k < (1 + absS C) * (1 + absS C) ^ k := Nat.mul_lt_mul_of_pos_right (by omega) p
        omega
    have zc : ∀ B : Nat, 1 ≤ B → pwS (fun r => r.1 * ((B ^ r.2 : Nat) : Int)) C = 0 := fun B b => by
      have z := hz B b
      rw [sp, pwS_top (fun e => ((B ^ e : Nat) : Int)) m A h1, c0, Int.zero_mul, Int.zero_add] at z
      exact z
    rw [sp, pwS_top g m A h1, c0, Int.zero_mul, Int.zero_add]
    exact pw_zero m C h2 zc g
/-! ### products as numbers -/
def wtL (b : Nat) : List Str → Str → Nat
  | [], _ => 0
  | x :: L, w => if w = x then 1 else b * wtL b L w
def exL (b : Nat) : List Str → List Str → Nat
  | [], _ => 0
  | x :: L, p => p.count x + b * exL b L p
theorem wt_out (b : Nat) : ∀ {L : List Str} {x : Str}, x ∉ L → wtL b L x = 0
  | [], _, _ => rfl
  | y :: L, x, h => by
    unfold wtL
    rw [if_neg fun e => h (by rw [e]; exact List.mem_cons_self ..), wt_out b fun z => h (List.mem_cons_of_mem _ z), Nat.mul_zero]
theorem wt_sum (b : Nat) : ∀ {L : List Str}, L.Nodup → ∀ p : List Str, (p.map (wtL b L)).sum = exL b L p
  | [], _, p => by
    unfold exL
    induction p with
    | nil => rfl
    | cons w p ih => rw [List.map_cons, List.sum_cons, ih]; rfl
  | x :: L, nd, p => by
    obtain ⟨nx, nd⟩ := List.nodup_cons.mp nd
    show _ = p.count x + b * exL b L p
    rw [← wt_sum b nd p]
    induction p with
    | nil => simp
    | cons w p ih =>
      rw [List.map_cons, List.sum_cons, ih, List.map_cons, List.sum_cons, List.count_cons]
      show (if w = x then 1 else b * wtL b L w) + _ = _
      by_cases e : w = x
      · rw [if_pos e, if_pos (by simpa using e), e, wt_out b nx, Nat.zero_add]
        omega
      · rw [if_neg e, if_neg (by simpa using e), Nat.mul_add]
        omega
theorem ex_count {b : Nat} {p q : List Str} : ∀ {L : List Str}, (∀ x, p.count x < b) → (∀ x, q.count x < b) → exL b L p = exL b L q → ∀ x ∈ L, p.count x = q.count x
  | [], _, _, _, x, hx => by cases hx
  | y :: L, hp, hq, e, x, hx => by
    have e : p.count y + b * exL b L p = q.count y + b * exL b L q := e
    have m := congrArg (· % b) e
    have d := congrArg (· / b) e
    have b0 : 0 < b := by have := hp y; omega
    simp only [Nat.add_mul_mod_self_left, Nat.mod_eq_of_lt (hp y), Nat.mod_eq_of_lt (hq y)] at m
    simp only [Nat.add_mul_div_left _ _ b0, Nat.div_eq_of_lt (hp y), Nat.div_eq_of_lt (hq y), Nat.zero_add] at d
    rcases List.mem_cons.mp hx with rfl | h
    · exact m
    · exact ex_count hp hq d x h
theorem ex_inj {b : Nat} {L p q : List Str} (hp : ∀ w ∈ p, w ∈ L) (hq : ∀ w ∈ q, w ∈ L) (sp : srt p = p) (sq : srt q = q) (lp : p.length < b) (lq : q.length < b) (e : exL b L p = exL b L q) : p = q := by
  have c := ex_count (L := L) (fun x => Nat.lt_of_le_of_lt List.count_le_length lp) (fun x => Nat.lt_of_le_of_lt List.count_le_length lq) e
  have pm : p.Perm q := List.perm_iff_count.mpr fun w => by
    by_cases hw : w ∈ L
    · exact c w hw
    · rw [List.count_eq_zero.mpr fun z => hw (hp w z), List.count_eq_zero.mpr fun z => hw (hq w z)]
  rw [← sp, ← sq]
  exact srt_congr pm
theorem prodF_pow {B : Nat} {g : Str → Nat} : ∀ p : List Str, prodF (fun w => ((B ^ g w : Nat) : Int)) p = ((B ^ (p.map g).sum : Nat) : Int)
  | [] => by simp [prodF]
  | w :: p => by
    rw [prodF_cons, prodF_pow p, List.map_cons, List.sum_cons, Nat.pow_add, Int.natCast_mul]
/-- what is worth nothing at all numbers is worth nothing -/
theorem lin_of_worth {L : List Str} (nd : L.Nodup) {R : List Tm} (keys : ∀ r ∈ R, (∀ w ∈ r.1, w ∈ L) ∧ srt r.1 = r.1) (h : ∀ v : Str → Int, lin (prodF v) R = 0) (φ : List Str → Int) : lin φ R = 0 := by
  obtain ⟨b, hb⟩ : ∃ b : Nat, ∀ r ∈ R, r.1.length < b := by
    clear keys h
    induction R with
    | nil => exact ⟨0, fun r hr => by cases hr⟩
    | cons r R ih =>
      obtain ⟨b, hb⟩ := ih
      refine ⟨b + r.1.length + 1, fun s hs => ?_⟩
      rcases List.mem_cons.mp hs with rfl | m
      · omega
      · have := hb s m; omega
  have tr : ∀ g : Nat → Int, pwS (fun r => r.1 * g r.2) (R.map fun r => (r.2, exL b L r.1)) = lin (fun p => g (exL b L p)) R := fun g => by
    unfold pwS lin
    rw [List.map_map]
    rfl
  obtain ⟨m, hm⟩ : ∃ m : Nat, ∀ r ∈ R.map (fun r => (r.2, exL b L r.1)), r.2 < m := by
    generalize R.map (fun r => (r.2, exL b L r.1)) = S
    induction S with
    | nil => exact ⟨0, fun r hr => by cases hr⟩
    | cons r S ih =>
      obtain ⟨m, hm⟩ := ih
      refine ⟨m + r.2 + 1, fun s hs => ?_⟩
      rcases List.mem_cons.mp hs with rfl | k
      · omega
      · have := hm s k; omega
  have z : ∀ g : Nat → Int, lin (fun p => g (exL b L p)) R = 0 := fun g => by
    rw [← tr]
    refine pw_zero m _ hm (fun B _ => ?_) g
    refine (tr fun e => ((B ^ e : Nat) : Int)).trans ?_
    have := h fun w => ((B ^ wtL b L w : Nat) : Int)
    rw [← this]
    unfold lin
    congr 1
    refine List.map_congr_left fun r _ => ?_
    dsimp only
    rw [prodF_pow, wt_sum b nd]
  have := z fun e => by
    classical
    exact if q : ∃ r ∈ R, exL b L r.1 = e then φ (Classical.choose q).1 else 0
  rw [← this]
  unfold lin
  congr 1
  refine List.map_congr_left fun r hr => ?_
  dsimp only
  have q : ∃ s ∈ R, exL b L s.1 = exL b L r.1 := ⟨r, hr, rfl⟩
  rw [dif_pos q]
  obtain ⟨h1, h2⟩ := Classical.choose_spec q
  rw [ex_inj (keys _ h1).1 (keys r hr).1 (keys _ h1).2 (keys r hr).2 (hb _ h1) (hb r hr) h2]
section
variable {L M : List Str} {d e n m N P : Nat} {f g : Fm}
theorem fx_under (hf : Fx L d n N f) (hg : Fx L e m P g) (h : ∀ φ, lin φ f.1 * g.2 = lin φ g.1 * f.2) : f.2 = g.2 := by
  have one : ∀ {f g : Fm} {d n N : Nat}, Fx L d n N f → 0 < g.2 → (∀ φ, lin φ f.1 * g.2 = lin φ g.1 * f.2) → f.2 ∣ g.2 := fun {f g d n N} hf gp h => by
    obtain ⟨u, hu⟩ : ∃ u : Nat, g.2 = (u : Int) := ⟨g.2.toNat, by omega⟩
    have x : Fx L d (nrm g.1) u f := ⟨hf.nd, hf.no0, hf.keys, hf.pos, by omega, hf.red, g.1, Nat.le_refl _, fun φ => by rw [← hu]; exact h φ⟩
    rw [hu]
    exact x.dvd
  exact Int.dvd_antisymm (by have := hf.pos; omega) (by have := hg.pos; omega) (one hf hg.pos h) (one hg hf.pos fun φ => (h φ).symm)
/-- forms in lowest terms of the same worth are equal -/
theorem fx_same (hf : Fx L d n N f) (hg : Fx L e m P g) (h : ∀ φ, lin φ f.1 * g.2 = lin φ g.1 * f.2) : eqM f g = true := by
  have eu := fx_under hf hg h
  have gt : ∀ p, getT f.1 p = getT g.1 p := fun p => by
    have := h (fun q => if q = p then 1 else 0)
    rw [lin_delta p hf.nd, lin_delta p hg.nd, eu] at this
    exact Int.eq_of_mul_eq_mul_right (by have := hg.pos; omega) this
  have sub : ∀ {f g : Fm} {d n N e m P : Nat}, Fx L d n N f → Fx L e m P g → (∀ p, getT f.1 p = getT g.1 p) → ∀ r ∈ f.1, r ∈ g.1 := fun {f g d n N e m P} hf hg gt r hr => by
    have e1 := getT_mem hf.nd hr
    have n0 := hf.no0 r hr
    by_cases k : r.1 ∈ g.1.map (·.1)
    · obtain ⟨s, hs, es⟩ := List.mem_map.mp k
      have e2 := getT_mem hg.nd hs
      have e3 : s.2 = r.2 := by rw [← e1, gt, ← es, e2]
      have : s = r := Prod.ext es e3
      rwa [← this]
    · exact absurd (by rw [← e1, gt, getT_out k]) n0
  have s1 := sub hf hg gt
  have s2 := sub hg hf fun p => (gt p).symm
  have kl : (f.1.map (·.1)).length = (g.1.map (·.1)).length := ((List.perm_ext_iff_of_nodup hf.nd hg.nd).mpr fun p => ⟨fun z => by
    obtain ⟨r, hr, rfl⟩ := List.mem_map.mp z
    exact List.mem_map_of_mem (s1 r hr), fun z => by
    obtain ⟨r, hr, rfl⟩ := List.mem_map.mp z
    exact List.mem_map_of_mem (s2 r hr)⟩).length_eq
  rw [List.length_map, List.length_map] at kl
  unfold eqM sameT
  rw [rowsT_len, rowsT_len, decide_eq_true kl, Bool.true_and, eu, decide_eq_true rfl, Bool.and_true, List.all_eq_true]
  intro q hq
  obtain ⟨r, hr, rfl⟩ := List.mem_map.mp hq
  exact decide_eq_true (valV_row hg.nd (s1 r hr))
/-- forms of the same worth at all whole numbers are equal -/
theorem fx_worth (nd : L.Nodup) (hf : Fx L d n N f) (hg : Fx L e m P g) (h : ∀ v : Str → Int, lin (prodF v) f.1 * g.2 = lin (prodF v) g.1 * f.2) : eqM f g = true := by
  refine fx_same hf hg fun φ => ?_
  have z := lin_of_worth nd (R := f.1.map (fun r => (r.1, r.2 * g.2)) ++ g.1.map (fun r => (r.1, r.2 * (0 - f.2)))) (fun r hr => ?_) (fun v => ?_) φ
  · rw [lin_app, lin_times, lin_times] at z
    grind
  · rcases List.mem_append.mp hr with k | k
    · obtain ⟨s, hs, rfl⟩ := List.mem_map.mp k
      have := hf.keys s.1 (List.mem_map_of_mem hs)
      exact ⟨this.1, this.2.2⟩
    · obtain ⟨s, hs, rfl⟩ := List.mem_map.mp k
      have := hg.keys s.1 (List.mem_map_of_mem hs)
      exact ⟨this.1, this.2.2⟩
  · rw [lin_app, lin_times, lin_times]
    have := h v
    grind
theorem worth_same {a w b x : Int} {v : Str → Int} (fp : 0 < f.2) (gp : 0 < g.2) (hf : Worth v f a w) (hg : Worth v g b x) (e : a * x = b * w) : lin (prodF v) f.1 * g.2 = lin (prodF v) g.1 * f.2 := by
  obtain ⟨w0, h1⟩ := hf
  obtain ⟨x0, h2⟩ := hg
  refine Int.eq_of_mul_eq_mul_right (a := w * x) (by have := Int.mul_pos w0 x0; omega) ?_
  grind
/-- forms that are worth the same fraction at all whole numbers are equal -/
theorem eq_of_worth (nd : L.Nodup) (hf : Fx L d n N f) (hg : Fx L e m P g) (h : ∀ v : Str → Int, ∃ a w b x, Worth v f a w ∧ Worth v g b x ∧ a * x = b * w) : eqM f g = true :=
  fx_worth nd hf hg fun v => by
    obtain ⟨a, w, b, x, h1, h2, e⟩ := h v
    exact worth_same hf.pos hg.pos h1 h2 e
end
end CP

set_option Elab.async false
set_option linter.all false
set_option maxRecDepth 100000
set_option maxHeartbeats 4000000
set_option autoImplicit false
/-! an own instance and a number, the operator in place: the class has no such method, so the plain one is asked -/
namespace CP
open L2 PySem PySem.W PyProof.Rows
structure NoAug (K : Frag) (C : Addr) (iz : Str) : Prop where
  mro : (clsIn K C).map (·.mro) = some [.ref C, .type "object"]
  one : findIn K (.ref C) iz = some none
theorem obj_aug : ((["__iadd__", "__isub__"] : List Str).all fun z => fastLookup "object" z == some none) = true := by decide +kernel
section
variable {K : Frag} {prog : Program} {w : World} {M : Model} {A : Around} {E : Value → Shared → Prop} {s : Shared} {m : Str → Option Value} {L : Addr} {h₀ : Heap} {C f x : Addr} {ox : Obj} {od : Option Obj} {T : String}
theorem fills_no {h : Heap} {add : Bool} {nu : String} (X : K.In h) (N : NoAug K C (dunderI nu)) (mem : dunderI nu ∈ (["__iadd__", "__isub__"] : List Str)) : Looks M h (fillsInplaceSlot (.ref C) nu add) false := by
  have o1 : findIn K (.type "object") (dunderI nu) = some none := beq_iff_eq.mp (List.all_eq_true.mp obj_aug _ mem)
  obtain ⟨cd, hc, hm⟩ := Option.map_eq_some_iff.mp N.mro
  intro A Q E s k q
  have x := X.keeps k
  have Lm : Looks M s.heap (mroOf (.ref C)) cd.mro := (looks_clsIn x hc).andThen (f := fun cd => pure cd.mro) .now
  unfold fillsInplaceSlot
  refine wpAny_bind (Lm.here ?_)
  rw [hm]
  simp only [List.anyM_cons, List.anyM_nil]
  refine wpAny_bind (wpAny_bind ((looks_findIn x N.one).here ?_))
  refine wpAny_pure ?_
  simp only [Bool.false_eq_true, if_false]
  refine wpAny_bind (wpAny_bind ((looks_findIn x o1).here ?_))
  refine wpAny_pure ?_
  simp only [Bool.false_eq_true, if_false]
  exact wpAny_pure q
theorem aug_T {op : Operator} {b : Value} {fo ro rc : Option Value} {Q : Value → Shared → Prop} (F : Fr h₀ L s.heap m) (X₀ : K.In h₀) (I : PySem.W.InstAt s.heap x ox C od) (hb : typeOf b = pure (.type T)) (hc : selfFirst K C = true)
    (N : NoAug K C (dunderI op.info.2)) (mem : dunderI op.info.2 ∈ (["__iadd__", "__isub__"] : List Str))
    (hs : findIn K (.ref C) (PySem.dunder op.info.2) = some (some (.ref f))) (hf : isFn K (.ref f) = true) (hr : findIn K (.ref C) (dunderR op.info.2) = some rc) (hp : rc = none ∨ ∃ g : Addr, rc = some (.ref g))
    (h1 : findIn K (.type T) (PySem.dunder op.info.2) = some fo) (h2 : findIn K (.type T) (dunderR op.info.2) = some ro) (hsub : subIn K (.type T) (.ref C) = some false)
    (h : wpAny (model prog w) A (call (.ref f) [.ref x, b]) (PySem.W.CmpBack Q) E s) : wpAny (model prog w) A (inplaceOp op (.ref x) b) Q E s := by
  have X := X₀.keeps F.keep
  obtain ⟨cd, rest, hcd, hm⟩ := ksp_first hc
  have one := ksp_try X I hs hf h
  have no := fun add => fills_no (M := model prog w) (add := add) X N mem
  obtain ⟨hh, g, d, tt, os⟩ := s
  have L1 : Looks (model prog w) hh (typeOf (.ref x)) (.ref C) := I.type
  have L2 : Looks (model prog w) hh (typeOf b) (.type T) := Looks.of_pure hb
  have L3 : Looks (model prog w) hh (fillsNumberSlot (.ref C) op.info.2) true := fills_K X hcd hm hs
  have L4 : Looks (model prog w) hh (fillsNumberSlot (.type T) op.info.2) ((fo.isSome && !isSeqSlot fo) || (ro.isSome && !isSeqSlot ro)) := ksp_fillsT X h1 h2
  have L5 : Looks (model prog w) hh (isSubtype (.type T) (.ref C)) false := looks_subIn X hsub
  have L6 : Looks (model prog w) hh (numberSlotInPython (.ref C) op.info.2) true := ksp_inPy X hs hr hp
  have L7 : Looks (model prog w) hh (numberSlotInPython (.type T) op.info.2) false := Looks.of_pure rfl
  have L8 : Looks (model prog w) hh (typeLookup (.type T) (dunderR op.info.2)) ro := looks_findIn X h2
  generalize ((fo.isSome && !isSeqSlot fo) || (ro.isSome && !isSeqSlot ro)) = right at L4
  have hne : (Value.ref C == Value.type T) = false := Bool.eq_false_iff.mpr fun q => by cases beq_iff_eq.mp q
  unfold inplaceOp
  refine wpAny_holding (wpAny_bind (L1.at ?_))
  dsimp only
  refine wpAny_bind ((no _).at ?_)
  simp only [Bool.false_eq_true, if_false]
  refine wpAny_bind ?_
  unfold binaryOp1
  refine wpAny_bind (L1.at (wpAny_bind (L2.at (wpAny_bind (L3.at ?_)))))
  simp only [hne, Bool.false_eq_true, if_false]
  cases right with
  | false =>
    ksp_lk
    refine wpAny_mono one (fun r s' hr' => ?_) fun _ _ e => e
    obtain ⟨v, rfl, hq⟩ := hr'
    ksp_lk
    exact hq
  | true =>
    ksp_lk
    refine wpAny_mono one (fun r s' hr' => ?_) fun _ _ e => e
    obtain ⟨v, rfl, hq⟩ := hr'
    ksp_lk
    exact hq
end
section
variable {X : Cx} {CX : CXT} {k : Nat} {C f : Addr} {fd : FuncData} {ps : List Str} {sp : Sp} {E : XK} {nm rn iz : Str} {op : Operator} {fo ro : Option Value}
theorem ip_binI (en : PySem.dunder op.info.2 = nm) (er : PySem.dunderR op.info.2 = rn) (ei : dunderI op.info.2 = iz) (mem : iz ∈ (["__iadd__", "__isub__"] : List Str)) (N : NoAug X.K C iz) (O : OwnOps X.K C) (M : Meth X.K C nm f) (Z : IntOp X.K C nm rn fo ro) (F : FnOk X.prog X.w X.K X.mg X.base CX k f fd ps sp) (hr : Room (k + 1) X.A) (hb : Binds X.K fd ps []) (hx : Passes CX X E) : PIp X op (rBinI C sp E) := by
  intro pins s σ H x y v u Q I rx ry h
  obtain ⟨a, n, dx, fs, rfl, rfl, ha, pr⟩ := h
  cases rx
  obtain ⟨tk, rfl⟩ := ry
  obtain ⟨mA, J, _⟩ := ins_get I.hok ha
  obtain ⟨o1, J, _⟩ := J.look
  obtain ⟨m, hF⟩ := I.fr
  cases en
  cases er
  cases ei
  refine aug_T (op := op) hF I.ok.mod.kin J rfl O.first N mem M.at_ M.fn Z.rev (.inl rfl) Z.one Z.two Z.sub ?_
  have hl := F.len _ _ _ _ pr
  have r2 : Vals [V.ref a, V.int n] [Value.ref a, Value.int n tk] := .cons rfl (.cons ⟨tk, rfl⟩ .nil)
  refine wpAny_call (codeAny_mono (F.run X.A X.stack s H ⟨[.ref a, .int n tk], []⟩ [.ref a, .int n tk] [.ref a, .int n] _ E (hr.mono (by omega)) I.env0 (by
    have z := hb s [.ref a, .int n tk] I.kIn (by simpa using hl)
    simpa using z) r2 pr) fun r s' z => ?_)
  match r, z with
  | .error e, z => exact hx pins σ H s e s' I z
  | .ok (.ret t), z =>
    obtain ⟨zv, H', I', rz, p, ep, q⟩ := I.after z
    subst ep
    cases rz
    exact ⟨.ref p, H', I', rfl, q⟩
theorem r_aug {σ : L2.St} {i : Nat} {te : TE} {ti : TIp} {D : Ends} {H : Hp} {x : V} (hx : σ[i]? = some (some x)) (q : te σ H fun y H1 => ti x y H1 fun z H2 => D.nx (σ.set i (some z)) H2) : tAug i te ti D σ H := ⟨x, hx, q⟩
end
end CP

set_option Elab.async false
set_option linter.all false
set_option maxRecDepth 100000
set_option maxHeartbeats 4000000
/-! set(xs) of a long list of texts, all of them among few -/
namespace CP
open PySem L2 PySem.Spec PyProof.Rows
theorem SetT.few {w : World} {h : Heap} {a : Addr} {T : Str → Bool} {n : Nat} {L : List Str} (R : SetT w h a T n) (sub : ∀ x, T x = true → x ∈ L) : n ≤ L.length := by
  obtain ⟨o, es, ep, tb, got, ex, dat, ent, dis, mem, below, fit, num, ris, led⟩ := R
  have := List.Nodup.length_le_of_subset dis fun x hx => sub x ((mem x).2 hx)
  rw [List.length_map, Array.length_toList, num] at this
  exact this
section
variable {P : Program} {w : World} {A : Around} {E : Value → Shared → Prop} {s : Shared} {a : Addr} {T : Str → Bool} {n : Nat}
theorem update_few {I : Addr} {fp wr : List Addr} {G : Array GenState → Array GenState → Prop} {n : Nat} {Pv : Nat → Value → Prop} {St : Nat → Shared → Prop} {R : Result → Shared → Prop} {L : List Str}
    (W : WalksS P w A.in1 I fp wr G n Pv St) (D : Addr) (out : D ∉ fp) (xs : List Str) (len : n = xs.length) (all : ∀ x ∈ xs, x ∈ L) (below : L.length + 1 < scanBound) (val : ∀ i v, Pv i v → ∃ x t, xs[i]? = some x ∧ v = .str x t) :
    ∀ (k i : Nat) (s : Shared), n - i = k → i ≤ n → St i s → (∃ c, SetT w s.heap D (fun y => decide (y ∈ xs.take i)) c) →
      (∀ s' c, Moved (D :: wr) G s s' → c ≤ L.length → SetT w s'.heap D (fun y => decide (y ∈ xs)) c → R (.ok (.ret .none)) s') →
      codeAny (model P w) A (.builtin "set.update.loop" ⟨[.ref D, .ref I], []⟩) R s := by
  have notw : D ∉ wr := fun z => out (W.sub _ z)
  have sub : ∀ b ∈ wr, b ∈ D :: wr := fun b hb => List.mem_cons_of_mem _ hb
  intro k
  induction k with
  | zero =>
    intro i s hk hi st ⟨c, hS⟩ q
    obtain rfl : i = n := by omega
    refine codeAny_builtin F.entry_set_update_loop ?_
    rw [Around.under_plainId F.plain_set_update_loop _]
    show wpAny _ A.in1 (pyNext (.ref I) >>= _) _ _ s
    refine wpAny_bind (W.done s _ _ st fun t moved => ?_)
    show wpAny _ A.in1 (ret Value.none) _ _ t
    rw [List.take_of_length_le (by omega : xs.length ≤ i)] at hS
    exact wpAny_pure (q t c (moved.mono sub) (hS.few fun x hx => all x (of_decide_eq_true hx)) (hS.there fun o e => moved.heap D o notw e))
  | succ k ih =>
    intro i s hk hi st ⟨c, hS⟩ q
    have lt : i < n := by omega
    have hc : c ≤ L.length := hS.few fun x hx => all x (List.mem_of_mem_take (of_decide_eq_true hx))
    refine codeAny_builtin F.entry_set_update_loop ?_
    rw [Around.under_plainId F.plain_set_update_loop _]
    show wpAny _ A.in1 (pyNext (.ref I) >>= _) _ _ s
    refine wpAny_bind (W.item i s _ _ lt st fun v t hP st' moved => ?_)
    obtain ⟨x, tk, hx, rfl⟩ := val i v hP
    have hS' : SetT w t.heap D (fun y => decide (y ∈ xs.take i)) c := hS.there fun o e => moved.heap D o notw e
    show wpAny _ A.in1 (holding [Value.str x tk] (setAdd D (.str x tk)) >>= _) _ _ t
    refine wpAny_bind (wpAny_holding ?_)
    unfold setAdd
    refine wpAny_holding (wpAny_bind ((tkd P w).pyHash (k := x) (strKind_is _ _ _ _) ?_))
    refine add_txt (s := { t with toks := t.toks + 1 }) hS' (by omega) fun h' sb r => ?_
    have r3 : SetT w h' D (fun y => decide (y ∈ xs.take (i + 1))) (if decide (x ∈ xs.take i) = true then c else c + 1) := r.same fun y => by
      rw [List.take_add_one, hx]
      simp [List.mem_append]
    refine wpAny_pure ⟨plainId_quiet F.plain_set_update_loop _, ih (i + 1) _ (by omega) lt (W.frame _ t _ _ st' (Nat.le_succ _) fun b hb o e => ?_) ⟨_, r3⟩ fun t2 c2 m2 hc2 hS2 => ?_⟩
    · rw [sb.2 b (fun z : b = D => out (by rw [← z]; exact hb))]; exact e
    · refine q t2 c2 (Moved.trans W.gtrans ((moved.mono sub).then_heap (Nat.le_succ _) fun b o hb e => ?_) m2) hc2 hS2
      rw [sb.2 b (fun z : b = D => hb (by rw [z]; exact List.mem_cons_self))]; exact e
theorem loop_few {l : Addr} {items : Array Value} {xs L : List Str} (cool : A.handled = none) (hl : s.heap.IsList l items) (hi : StrsAre items.toList xs) (all : ∀ x ∈ xs, x ∈ L) (below : L.length + 1 < scanBound) :
    ∀ (A' : Around) (R : Result → Shared → Prop) (s1 : Shared), A'.handled = A.handled → s1.heap = (s.heap.push (set0 w)).push (lit0 l) →
      (∀ s', Moved [s.heap.objs.size, s.heap.objs.size + 1] (fun a b => b = a) s1 s' → (∃ c, c ≤ L.length ∧ SetT w s'.heap s.heap.objs.size (fun y => decide (y ∈ xs)) c) → R (.ok (.ret .none)) s') →
      codeAny (model P w) A' (.builtin "set.update.loop" ⟨[.ref s.heap.objs.size, .ref (s.heap.objs.size + 1)], []⟩) R s1 := by
  intro A' R s1 hA e1 k
  have size : items.size = xs.length := by
    have q := StrsAre.length hi
    rwa [Array.length_toList] at q
  have low : l < s.heap.objs.size := Heap.lt_size hl.choose_spec.1
  have z1 : (s.heap.push (set0 w)).objs.size = s.heap.objs.size + 1 := Heap.size_push ..
  have g0 : s1.heap.get? s.heap.objs.size = some (set0 w) := e1 ▸ Heap.get?_push_of_some _ (Heap.get?_push_size _ rfl)
  have gI : s1.heap.get? (s.heap.objs.size + 1) = some (lit0 l) := by
    have q := Heap.get?_push_size (o := lit0 l) (s.heap.push (set0 w)) rfl
    rw [z1] at q
    exact e1 ▸ q
  have gl : s1.heap.IsList l items := e1 ▸ (hl.push _).push _
  have W := (Walks.list (prog := P) (w := w) (A := A'.in1) (by simp [hA, cool]) (s.heap.objs.size + 1) l (Nat.ne_of_lt (Nat.lt_succ_of_lt low)) items).toS
  refine update_few W s.heap.objs.size ?_ xs size all below ?_ (items.size - 0) 0 s1 rfl (Nat.zero_le _) ⟨⟨_, gI, rfl, rfl⟩, gl⟩ ⟨0, setT_new g0⟩ fun s' c hm hc hS => k s' hm ⟨c, by omega, hS⟩
  · intro z
    rcases List.mem_cons.mp z with z | z
    · exact absurd z (Nat.ne_of_lt (Nat.lt_succ_self _))
    · exact absurd (List.mem_singleton.mp z) (Nat.ne_of_gt low)
  · intro i v hv
    have lt : i < xs.length := by rw [← size]; exact (Array.getElem?_eq_some_iff.mp hv).1
    obtain ⟨t, e⟩ := SS.strs_at hi i v (by rw [Array.getElem?_toList]; exact hv)
    refine ⟨xs[i], t, List.getElem?_eq_getElem lt, ?_⟩
    rw [e, List.getD_eq_getElem?_getD, List.getElem?_eq_getElem lt]
    rfl
end
section
variable {X : Cx}
def rSetF (K : PySem.W.Frag) (w : World) : List V → Hp → VK → Prop := fun xs H Q => ∃ (l : Addr) (ys L : List Str), xs = [.ref l] ∧ SqL K H l (ys.map V.str) ∧ (∀ y ∈ ys, y ∈ L) ∧ L.length < 4000 ∧
  ∀ p c, H p = none → c ≤ L.length → Q (.ref p) (upd H p (SetTO w p (fun y => decide (y ∈ ys)) c))
theorem cr_setF (cool : X.calm = true) : CallR X (.type "set") (rSetF X.K X.w) := by
  intro pins s σ H xs us Q I r h
  obtain ⟨l, ys, L, rfl, hl, all, few, q⟩ := h
  obtain ⟨u, rfl, ru⟩ := vals1 r
  cases (show u = Value.ref l from ru)
  obtain ⟨its, rv, pl, hz⟩ := I.list hl
  have hi : StrsAre its.toArray.toList ys := by simpa using rv.strs
  refine set_of_list (P := X.prog) (w := X.w) (Fin := fun h => ∃ c, c ≤ L.length ∧ SetT X.w h s.heap.objs.size (fun y => decide (y ∈ ys)) c) pl.isList (loop_few (I.ok.hd cool) pl.isList hi all (by unfold scanBound; omega)) fun h' tk hF hk => ?_
  obtain ⟨c, hc', R⟩ := hF
  have fr := I.hok.fresh (Nat.le_refl s.heap.objs.size)
  exact ⟨.ref s.heap.objs.size, _, I.laid (t' := tk) hk (Nat.le_refl _) (setT_ok R), rfl, q _ _ fr hc'⟩
end
/-- sorted(set(xs)), xs a list of texts among few -/
theorem r_sortSetF {K : PySem.W.Frag} {w : World} {σ : L2.St} {H : Hp} {Q : VK} {l : Addr} {xs L : List Str} (hl : SqL K H l (xs.map V.str)) (all : ∀ x ∈ xs, x ∈ L) (hn : L.length < 4000)
    (k : ∀ (ys : List Str) (p : Addr) (H' : Hp), sortedS ys = true → ys.Nodup → (∀ x, x ∈ ys ↔ x ∈ xs) → Same H H' → H p = none → H' p = some (.lst (ys.map V.str)) → Q (.ref p) H') :
    rSetF K w [.ref l] H fun x H1 => tNil σ H1 fun zs H2 => rSortT w (x :: zs) H2 Q := by
  refine ⟨l, xs, L, rfl, hl, all, hn, fun p c hp hc => ?_⟩
  refine r_nil ⟨p, _, c, rfl, upd_same, by omega, fun ys p2 hs hd hm h2 => ?_⟩
  have h3 : H p2 = none := by
    by_cases e : p2 = p
    · rw [e, upd_same] at h2; cases h2
    · rwa [upd_ne e] at h2
  exact k ys p2 _ hs hd (fun z => by rw [hm]; simp) ((same_new hp).trans (same_new h2)) h3 upd_same
end CP

namespace CP
open PySem L2
def top (i : Nat) : Stmt := PySem.Challenge.pw_cellplaces_k03_whole_terms.main.body.getD i (.Pass ⟨0, 0, 0, 0⟩)
abbrev s_is_whole : Stmt := top 9
abbrev s_is_letter : Stmt := top 10
abbrev s_check_letter : Stmt := top 11
abbrev s_check_form : Stmt := top 12
abbrev s_are_values : Stmt := top 13
abbrev s_common : Stmt := top 14
abbrev s_made : Stmt := top 15
abbrev s_as_form : Stmt := top 16
abbrev s_Form___init : Stmt := inClass (top 17) 0
abbrev s_Form___add : Stmt := inClass (top 17) 1
abbrev s_Form___neg : Stmt := inClass (top 17) 2
abbrev s_Form___sub : Stmt := inClass (top 17) 3
abbrev s_Form___mul : Stmt := inClass (top 17) 4
abbrev s_Form_over : Stmt := inClass (top 17) 5
abbrev s_Form___eq : Stmt := inClass (top 17) 6
abbrev s_Form_terms : Stmt := inClass (top 17) 7
abbrev s_Form_letters : Stmt := inClass (top 17) 8
abbrev s_Form_degree : Stmt := inClass (top 17) 9
abbrev s_Form_part : Stmt := inClass (top 17) 10
abbrev s_Form_above : Stmt := inClass (top 17) 11
abbrev s_Form_at : Stmt := inClass (top 17) 12
abbrev s_Form_put : Stmt := inClass (top 17) 13
abbrev s_letter : Stmt := top 18
abbrev s_number : Stmt := top 19
abbrev s_law_purse : Stmt := top 21
abbrev s_law_mixed : Stmt := top 22
abbrev s_law_draw : Stmt := top 23
abbrev s_law_purses : Stmt := top 24
abbrev s_law_one_of : Stmt := top 25
abbrev s_law_tree : Stmt := top 26
abbrev s_law_worth : Stmt := top 27
abbrev s_law_form : Stmt := top 28
abbrev s_law_whole_at : Stmt := top 29
abbrev s_law_values : Stmt := top 30
abbrev s_law_names : Stmt := top 31
abbrev s_law_common : Stmt := top 32
abbrev s_law_terms_right : Stmt := top 33
abbrev s_law_form_right : Stmt := top 34
abbrev s_law_put_right : Stmt := top 35
abbrev s_law_wholes_right : Stmt := top 36
abbrev s_law_fractions_right : Stmt := top 37
abbrev s_law_put_once_right : Stmt := top 38
abbrev s_law : Stmt := top 39
theorem sc_is_whole : FnScope ["value"] ["value"] (defScope s_is_whole) := ⟨rfl, rfl, rfl, by decide +kernel, rfl, by decide +kernel, by decide +kernel⟩
theorem sc_is_letter : FnScope ["value", "sign"] ["value"] (defScope s_is_letter) := ⟨rfl, rfl, rfl, by decide +kernel, rfl, by decide +kernel, by decide +kernel⟩
theorem sc_check_letter : FnScope ["name"] ["name"] (defScope s_check_letter) := ⟨rfl, rfl, rfl, by decide +kernel, rfl, by decide +kernel, by decide +kernel⟩
theorem sc_check_form : FnScope ["form"] ["form"] (defScope s_check_form) := ⟨rfl, rfl, rfl, by decide +kernel, rfl, by decide +kernel, by decide +kernel⟩
theorem sc_are_values : FnScope ["value", "name"] ["value"] (defScope s_are_values) := ⟨rfl, rfl, rfl, by decide +kernel, rfl, by decide +kernel, by decide +kernel⟩
theorem sc_common : FnScope ["one", "other"] ["one", "other"] (defScope s_common) := ⟨rfl, rfl, rfl, by decide +kernel, rfl, by decide +kernel, by decide +kernel⟩
theorem sc_made : FnScope ["rows", "under", "kept", "product", "many", "divisor"] ["rows", "under"] (defScope s_made) := ⟨rfl, rfl, rfl, by decide +kernel, rfl, by decide +kernel, by decide +kernel⟩
theorem sc_as_form : FnScope ["value"] ["value"] (defScope s_as_form) := ⟨rfl, rfl, rfl, by decide +kernel, rfl, by decide +kernel, by decide +kernel⟩
theorem sc_Form___init : FnScope ["self", "rows", "under"] ["self", "rows", "under"] (defScope s_Form___init) := ⟨rfl, rfl, rfl, by decide +kernel, rfl, by decide +kernel, by decide +kernel⟩
theorem sc_Form___add : FnScope ["self", "other", "rows", "product", "many"] ["self", "other"] (defScope s_Form___add) := ⟨rfl, rfl, rfl, by decide +kernel, rfl, by decide +kernel, by decide +kernel⟩
theorem sc_Form___neg : FnScope ["self", "product", "many"] ["self"] (defScope s_Form___neg) := ⟨rfl, rfl, rfl, by decide +kernel, rfl, by decide +kernel, by decide +kernel⟩
theorem sc_Form___sub : FnScope ["self", "other"] ["self", "other"] (defScope s_Form___sub) := ⟨rfl, rfl, rfl, by decide +kernel, rfl, by decide +kernel, by decide +kernel⟩
theorem sc_Form___mul : FnScope ["self", "other", "rows", "one", "many", "two", "more", "product"] ["self", "other"] (defScope s_Form___mul) := ⟨rfl, rfl, rfl, by decide +kernel, rfl, by decide +kernel, by decide +kernel⟩
theorem sc_Form_over : FnScope ["self", "divisor", "turned"] ["self", "divisor"] (defScope s_Form_over) := ⟨rfl, rfl, rfl, by decide +kernel, rfl, by decide +kernel, by decide +kernel⟩
theorem sc_Form___eq : FnScope ["self", "other"] ["self", "other"] (defScope s_Form___eq) := ⟨rfl, rfl, rfl, by decide +kernel, rfl, by decide +kernel, by decide +kernel⟩
theorem sc_Form_terms : FnScope ["self", "found", "product", "divisor"] ["self"] (defScope s_Form_terms) := ⟨rfl, rfl, rfl, by decide +kernel, rfl, by decide +kernel, by decide +kernel⟩
theorem sc_Form_letters : FnScope ["self", "product", "name"] ["self"] (defScope s_Form_letters) := ⟨rfl, rfl, rfl, by decide +kernel, rfl, by decide +kernel, by decide +kernel⟩
theorem sc_Form_degree : FnScope ["self", "product"] ["self"] (defScope s_Form_degree) := ⟨rfl, rfl, rfl, by decide +kernel, rfl, by decide +kernel, by decide +kernel⟩
theorem sc_Form_above : FnScope ["self", "values", "total", "product", "many", "name"] ["self", "values"] (defScope s_Form_above) := ⟨rfl, rfl, rfl, by decide +kernel, rfl, by decide +kernel, by decide +kernel⟩
theorem sc_Form_at : FnScope ["self", "values", "name", "total"] ["self", "values"] (defScope s_Form_at) := ⟨rfl, rfl, rfl, by decide +kernel, rfl, by decide +kernel, by decide +kernel⟩
theorem sc_Form_put : FnScope ["self", "name", "other", "powers", "turn", "product", "found", "many", "rest", "one"] ["self", "name", "other"] (defScope s_Form_put) := ⟨rfl, rfl, rfl, by decide +kernel, rfl, by decide +kernel, by decide +kernel⟩
theorem sc_letter : FnScope ["name"] ["name"] (defScope s_letter) := ⟨rfl, rfl, rfl, by decide +kernel, rfl, by decide +kernel, by decide +kernel⟩
theorem sc_number : FnScope ["value"] ["value"] (defScope s_number) := ⟨rfl, rfl, rfl, by decide +kernel, rfl, by decide +kernel, by decide +kernel⟩
theorem sc_law_purse : FnScope ["_law_script", "_law_at", "_law_seed"] ["_law_script", "_law_at"] (defScope s_law_purse) := ⟨rfl, rfl, rfl, by decide +kernel, rfl, by decide +kernel, by decide +kernel⟩
theorem sc_law_mixed : FnScope ["_law_seed", "_law_turn", "_law_at", "_law_mixed_here"] ["_law_seed", "_law_turn", "_law_at"] (defScope s_law_mixed) := ⟨rfl, rfl, rfl, by decide +kernel, rfl, by decide +kernel, by decide +kernel⟩
theorem sc_law_draw : FnScope ["_law_purse_here", "_law_many", "_law_drawn", "_law_found", "_law_piece"] ["_law_purse_here", "_law_many"] (defScope s_law_draw) := ⟨rfl, rfl, rfl, by decide +kernel, rfl, by decide +kernel, by decide +kernel⟩
theorem sc_law_purses : FnScope ["_law_script", "_law_few", "_law_at"] ["_law_script", "_law_few"] (defScope s_law_purses) := ⟨rfl, rfl, rfl, by decide +kernel, rfl, by decide +kernel, by decide +kernel⟩
theorem sc_law_one_of : FnScope ["_law_purse_here", "_law_some"] ["_law_purse_here", "_law_some"] (defScope s_law_one_of) := ⟨rfl, rfl, rfl, by decide +kernel, rfl, by decide +kernel, by decide +kernel⟩
theorem sc_law_tree : FnScope ["_law_purse_here", "_law_depth", "_law_names_here", "_law_way", "_law_word"] ["_law_purse_here", "_law_depth", "_law_names_here"] (defScope s_law_tree) := ⟨rfl, rfl, rfl, by decide +kernel, rfl, by decide +kernel, by decide +kernel⟩
theorem sc_law_worth : FnScope ["_law_tree_here", "_law_values_here", "_law_first", "_law_under", "_law_second", "_law_lower"] ["_law_tree_here", "_law_values_here"] (defScope s_law_worth) := ⟨rfl, rfl, rfl, by decide +kernel, rfl, by decide +kernel, by decide +kernel⟩
theorem sc_law_form : FnScope ["_law_tree_here", "_law_first", "_law_second"] ["_law_tree_here"] (defScope s_law_form) := ⟨rfl, rfl, rfl, by decide +kernel, rfl, by decide +kernel, by decide +kernel⟩
theorem sc_law_whole_at : FnScope ["_law_tree_here", "_law_values_here", "_law_above", "_law_under"] ["_law_tree_here", "_law_values_here"] (defScope s_law_whole_at) := ⟨rfl, rfl, rfl, by decide +kernel, rfl, by decide +kernel, by decide +kernel⟩
theorem sc_law_values : FnScope ["_law_purse_here", "_law_names_here", "_law_found", "_law_name", "_law_far"] ["_law_purse_here", "_law_names_here"] (defScope s_law_values) := ⟨rfl, rfl, rfl, by decide +kernel, rfl, by decide +kernel, by decide +kernel⟩
theorem sc_law_names : FnScope ["_law_purse_here", "_law_many", "_law_found", "_law_turn", "_law_word", "_law_spot", "_law_some", "_law_name"] ["_law_purse_here", "_law_many"] (defScope s_law_names) := ⟨rfl, rfl, rfl, by decide +kernel, rfl, by decide +kernel, by decide +kernel⟩
theorem sc_law_common : FnScope ["_law_one", "_law_other", "_law_turn"] ["_law_one", "_law_other"] (defScope s_law_common) := ⟨rfl, rfl, rfl, by decide +kernel, rfl, by decide +kernel, by decide +kernel⟩
theorem sc_law_terms_right : FnScope ["_law_terms", "_law_values_here", "_law_form_here", "_law_above", "_law_under", "_law_seen", "_law_many", "_law_bottom", "_law_names_here", "_law_name"] ["_law_terms", "_law_values_here", "_law_form_here"] (defScope s_law_terms_right) := ⟨rfl, rfl, rfl, by decide +kernel, rfl, by decide +kernel, by decide +kernel⟩
theorem sc_law_form_right : FnScope ["_law_purse_here", "_law_form_here", "_law_names_here", "_law_terms", "_law_turn", "_law_every", "_law_term", "_law_most", "_law_many", "_law_bottom", "_law_some", "_law_noted"] ["_law_purse_here", "_law_form_here", "_law_names_here"] (defScope s_law_form_right) := ⟨rfl, rfl, rfl, by decide +kernel, rfl, by decide +kernel, by decide +kernel⟩
theorem sc_law_put_right : FnScope ["_law_purse_here", "_law_tree_here", "_law_other", "_law_names_here", "_law_name", "_law_built", "_law_turn", "_law_values_here", "_law_above", "_law_under", "_law_inner"] ["_law_purse_here", "_law_tree_here", "_law_other", "_law_names_here"] (defScope s_law_put_right) := ⟨rfl, rfl, rfl, by decide +kernel, rfl, by decide +kernel, by decide +kernel⟩
theorem sc_law_wholes_right : FnScope ["_law_form_here", "_law_total", "_law_before"] ["_law_form_here"] (defScope s_law_wholes_right) := ⟨rfl, rfl, rfl, by decide +kernel, rfl, by decide +kernel, by decide +kernel⟩
theorem sc_law_fractions_right : FnScope ["_law_n", "_law_m", "_law_square", "_law_halved", "_law_far"] [] (defScope s_law_fractions_right) := ⟨rfl, rfl, rfl, by decide +kernel, rfl, by decide +kernel, by decide +kernel⟩
theorem sc_law_put_once_right : FnScope ["_law_product", "_law_total", "_law_letters", "_law_sign", "_law_built"] [] (defScope s_law_put_once_right) := ⟨rfl, rfl, rfl, by decide +kernel, rfl, by decide +kernel, by decide +kernel⟩
theorem sc_law : FnScope ["_law_script", "_law_purse_here", "_law_names_here", "_law_one", "_law_other", "_law_first", "_law_second", "_law_third", "_law_form_here", "_law_less", "_law_more"] ["_law_script"] (defScope s_law) := ⟨rfl, rfl, rfl, by decide +kernel, rfl, by decide +kernel, by decide +kernel⟩
abbrev c_SMALL : V := .str "abcdefghijklmnopqrstuvwxyz"
set_option genSizeOf false in
set_option genInjectivity false in
structure Txt (K : PySem.W.Frag) (mg : Str → Option Value) where
  z : Pw
  a_is_whole : Addr
  fd_is_whole : FuncData
  F_is_whole : Fun K "is_whole" "is_whole" s_is_whole a_is_whole fd_is_whole
  m_is_whole : mg "is_whole" = some (.ref a_is_whole)
  a_is_letter : Addr
  fd_is_letter : FuncData
  F_is_letter : Fun K "is_letter" "is_letter" s_is_letter a_is_letter fd_is_letter
  m_is_letter : mg "is_letter" = some (.ref a_is_letter)
  a_check_letter : Addr
  fd_check_letter : FuncData
  F_check_letter : Fun K "check_letter" "check_letter" s_check_letter a_check_letter fd_check_letter
  m_check_letter : mg "check_letter" = some (.ref a_check_letter)
  a_check_form : Addr
  fd_check_form : FuncData
  F_check_form : Fun K "check_form" "check_form" s_check_form a_check_form fd_check_form
  m_check_form : mg "check_form" = some (.ref a_check_form)
  a_are_values : Addr
  fd_are_values : FuncData
  F_are_values : Fun K "are_values" "are_values" s_are_values a_are_values fd_are_values
  m_are_values : mg "are_values" = some (.ref a_are_values)
  a_common : Addr
  fd_common : FuncData
  F_common : Fun K "common" "common" s_common a_common fd_common
  m_common : mg "common" = some (.ref a_common)
  a_made : Addr
  fd_made : FuncData
  F_made : Fun K "made" "made" s_made a_made fd_made
  m_made : mg "made" = some (.ref a_made)
  a_as_form : Addr
  fd_as_form : FuncData
  F_as_form : Fun K "as_form" "as_form" s_as_form a_as_form fd_as_form
  m_as_form : mg "as_form" = some (.ref a_as_form)
  a_Form___init : Addr
  fd_Form___init : FuncData
  F_Form___init : Fun K "__init__" "Form.__init__" s_Form___init a_Form___init fd_Form___init
  a_Form___add : Addr
  fd_Form___add : FuncData
  F_Form___add : Fun K "__add__" "Form.__add__" s_Form___add a_Form___add fd_Form___add
  a_Form___neg : Addr
  fd_Form___neg : FuncData
  F_Form___neg : Fun K "__neg__" "Form.__neg__" s_Form___neg a_Form___neg fd_Form___neg
  a_Form___sub : Addr
  fd_Form___sub : FuncData
  F_Form___sub : Fun K "__sub__" "Form.__sub__" s_Form___sub a_Form___sub fd_Form___sub
  a_Form___mul : Addr
  fd_Form___mul : FuncData
  F_Form___mul : Fun K "__mul__" "Form.__mul__" s_Form___mul a_Form___mul fd_Form___mul
  a_Form_over : Addr
  fd_Form_over : FuncData
  F_Form_over : Fun K "over" "Form.over" s_Form_over a_Form_over fd_Form_over
  a_Form___eq : Addr
  fd_Form___eq : FuncData
  F_Form___eq : Fun K "__eq__" "Form.__eq__" s_Form___eq a_Form___eq fd_Form___eq
  a_Form_terms : Addr
  fd_Form_terms : FuncData
  F_Form_terms : Fun K "terms" "Form.terms" s_Form_terms a_Form_terms fd_Form_terms
  a_Form_letters : Addr
  fd_Form_letters : FuncData
  F_Form_letters : Fun K "letters" "Form.letters" s_Form_letters a_Form_letters fd_Form_letters
  a_Form_degree : Addr
  fd_Form_degree : FuncData
  F_Form_degree : Fun K "degree" "Form.degree" s_Form_degree a_Form_degree fd_Form_degree
  a_Form_part : Addr
  fd_Form_part : FuncData
  F_Form_part : Fun K "part" "Form.part" s_Form_part a_Form_part fd_Form_part
  a_Form_above : Addr
  fd_Form_above : FuncData
  F_Form_above : Fun K "above" "Form.above" s_Form_above a_Form_above fd_Form_above
  a_Form_at : Addr
  fd_Form_at : FuncData
  F_Form_at : Fun K "at" "Form.at" s_Form_at a_Form_at fd_Form_at
  a_Form_put : Addr
  fd_Form_put : FuncData
  F_Form_put : Fun K "put" "Form.put" s_Form_put a_Form_put fd_Form_put
  a_letter : Addr
  fd_letter : FuncData
  F_letter : Fun K "letter" "letter" s_letter a_letter fd_letter
  m_letter : mg "letter" = some (.ref a_letter)
  a_number : Addr
  fd_number : FuncData
  F_number : Fun K "number" "number" s_number a_number fd_number
  m_number : mg "number" = some (.ref a_number)
  a_law_purse : Addr
  fd_law_purse : FuncData
  F_law_purse : Fun K "_law_purse" "_law_purse" s_law_purse a_law_purse fd_law_purse
  m__law_purse : mg "_law_purse" = some (.ref a_law_purse)
  a_law_mixed : Addr
  fd_law_mixed : FuncData
  F_law_mixed : Fun K "_law_mixed" "_law_mixed" s_law_mixed a_law_mixed fd_law_mixed
  m__law_mixed : mg "_law_mixed" = some (.ref a_law_mixed)
  a_law_draw : Addr
  fd_law_draw : FuncData
  F_law_draw : Fun K "_law_draw" "_law_draw" s_law_draw a_law_draw fd_law_draw
  m__law_draw : mg "_law_draw" = some (.ref a_law_draw)
  a_law_purses : Addr
  fd_law_purses : FuncData
  F_law_purses : Fun K "_law_purses" "_law_purses" s_law_purses a_law_purses fd_law_purses
  m__law_purses : mg "_law_purses" = some (.ref a_law_purses)
  a_law_one_of : Addr
  fd_law_one_of : FuncData
  F_law_one_of : Fun K "_law_one_of" "_law_one_of" s_law_one_of a_law_one_of fd_law_one_of
  m__law_one_of : mg "_law_one_of" = some (.ref a_law_one_of)
  a_law_tree : Addr
  fd_law_tree : FuncData
  F_law_tree : Fun K "_law_tree" "_law_tree" s_law_tree a_law_tree fd_law_tree
  m__law_tree : mg "_law_tree" = some (.ref a_law_tree)
  a_law_worth : Addr
  fd_law_worth : FuncData
  F_law_worth : Fun K "_law_worth" "_law_worth" s_law_worth a_law_worth fd_law_worth
  m__law_worth : mg "_law_worth" = some (.ref a_law_worth)
  a_law_form : Addr
  fd_law_form : FuncData
  F_law_form : Fun K "_law_form" "_law_form" s_law_form a_law_form fd_law_form
  m__law_form : mg "_law_form" = some (.ref a_law_form)
  a_law_whole_at : Addr
  fd_law_whole_at : FuncData
  F_law_whole_at : Fun K "_law_whole_at" "_law_whole_at" s_law_whole_at a_law_whole_at fd_law_whole_at
  m__law_whole_at : mg "_law_whole_at" = some (.ref a_law_whole_at)
  a_law_values : Addr
  fd_law_values : FuncData
  F_law_values : Fun K "_law_values" "_law_values" s_law_values a_law_values fd_law_values
  m__law_values : mg "_law_values" = some (.ref a_law_values)
  a_law_names : Addr
  fd_law_names : FuncData
  F_law_names : Fun K "_law_names" "_law_names" s_law_names a_law_names fd_law_names
  m__law_names : mg "_law_names" = some (.ref a_law_names)
  a_law_common : Addr
  fd_law_common : FuncData
  F_law_common : Fun K "_law_common" "_law_common" s_law_common a_law_common fd_law_common
  m__law_common : mg "_law_common" = some (.ref a_law_common)
  a_law_terms_right : Addr
  fd_law_terms_right : FuncData
  F_law_terms_right : Fun K "_law_terms_right" "_law_terms_right" s_law_terms_right a_law_terms_right fd_law_terms_right
  m__law_terms_right : mg "_law_terms_right" = some (.ref a_law_terms_right)
  a_law_form_right : Addr
  fd_law_form_right : FuncData
  F_law_form_right : Fun K "_law_form_right" "_law_form_right" s_law_form_right a_law_form_right fd_law_form_right
  m__law_form_right : mg "_law_form_right" = some (.ref a_law_form_right)
  a_law_put_right : Addr
  fd_law_put_right : FuncData
  F_law_put_right : Fun K "_law_put_right" "_law_put_right" s_law_put_right a_law_put_right fd_law_put_right
  m__law_put_right : mg "_law_put_right" = some (.ref a_law_put_right)
  a_law_wholes_right : Addr
  fd_law_wholes_right : FuncData
  F_law_wholes_right : Fun K "_law_wholes_right" "_law_wholes_right" s_law_wholes_right a_law_wholes_right fd_law_wholes_right
  m__law_wholes_right : mg "_law_wholes_right" = some (.ref a_law_wholes_right)
  a_law_fractions_right : Addr
  fd_law_fractions_right : FuncData
  F_law_fractions_right : Fun K "_law_fractions_right" "_law_fractions_right" s_law_fractions_right a_law_fractions_right fd_law_fractions_right
  m__law_fractions_right : mg "_law_fractions_right" = some (.ref a_law_fractions_right)
  a_law_put_once_right : Addr
  fd_law_put_once_right : FuncData
  F_law_put_once_right : Fun K "_law_put_once_right" "_law_put_once_right" s_law_put_once_right a_law_put_once_right fd_law_put_once_right
  m__law_put_once_right : mg "_law_put_once_right" = some (.ref a_law_put_once_right)
  a_law : Addr
  fd_law : FuncData
  F_law : Fun K "law" "law" s_law a_law fd_law
  m_law : mg "law" = some (.ref a_law)
  a_Form : Addr
  m_Form : mg "Form" = some (.ref a_Form)
  c_Form : Cls K a_Form
  I_Form : ClsI K a_Form
  n_Form_rows : NoAttr K a_Form "rows"
  n_Form_under : NoAttr K a_Form "under"
  k_Form : Mk K a_Form a_Form___init
  M_Form___add : Meth K a_Form "__add__" a_Form___add
  M_Form___neg : Meth K a_Form "__neg__" a_Form___neg
  M_Form___sub : Meth K a_Form "__sub__" a_Form___sub
  M_Form___mul : Meth K a_Form "__mul__" a_Form___mul
  M_Form_over : Meth K a_Form "over" a_Form_over
  M_Form___eq : Meth K a_Form "__eq__" a_Form___eq
  O_Form : OwnEq K a_Form a_Form___eq
  M_Form_terms : Meth K a_Form "terms" a_Form_terms
  M_Form_letters : Meth K a_Form "letters" a_Form_letters
  M_Form_degree : Meth K a_Form "degree" a_Form_degree
  M_Form_part : Meth K a_Form "part" a_Form_part
  M_Form_above : Meth K a_Form "above" a_Form_above
  M_Form_at : Meth K a_Form "at" a_Form_at
  M_Form_put : Meth K a_Form "put" a_Form_put
  S_Form : OwnOps K a_Form
  Z_Form___add : IntOp K a_Form "__add__" "__radd__" (some (.builtin "int.__add__")) (some (.builtin "int.__radd__"))
  Z_Form___sub : IntOp K a_Form "__sub__" "__rsub__" (some (.builtin "int.__sub__")) (some (.builtin "int.__rsub__"))
  Z_Form___mul : IntOp K a_Form "__mul__" "__rmul__" (some (.builtin "int.__mul__")) (some (.builtin "int.__rmul__"))
  u_SMALL : Value
  m_SMALL : mg "SMALL" = some u_SMALL ∧ RelV c_SMALL u_SMALL
  n_abs : mg "abs" = none
  n_bool : mg "bool" = none
  n_dict : mg "dict" = none
  n_int : mg "int" = none
  n_isinstance : mg "isinstance" = none
  n_len : mg "len" = none
  n_list : mg "list" = none
  n_max : mg "max" = none
  n_min : mg "min" = none
  n_range : mg "range" = none
  n_repr : mg "repr" = none
  n_set : mg "set" = none
  n_sorted : mg "sorted" = none
  n_str : mg "str" = none
  n_sum : mg "sum" = none
  n_tuple : mg "tuple" = none
  J_Form___add : NoAug K a_Form "__iadd__"
  J_Form___sub : NoAug K a_Form "__isub__"
  tc : Addr
  tP : Addr
  tcode : LamP.CodeIs K a_Form_terms tc
variable {P : Program} {w : World} {K : PySem.W.Frag} {mg : Str → Option Value} {base : Heap}
theorem b_is_whole (T : Txt K mg) : Binds K T.fd_is_whole ["value"] [] := T.F_is_whole.binds (ps := ["value"]) fun _ _ _ _ _ _ us hl => match us, hl with | [_], _ => rfl
theorem b_is_letter (T : Txt K mg) : Binds K T.fd_is_letter ["value"] [] := T.F_is_letter.binds (ps := ["value"]) fun _ _ _ _ _ _ us hl => match us, hl with | [_], _ => rfl
theorem b_check_letter (T : Txt K mg) : Binds K T.fd_check_letter ["name"] [] := T.F_check_letter.binds (ps := ["name"]) fun _ _ _ _ _ _ us hl => match us, hl with | [_], _ => rfl
theorem b_check_form (T : Txt K mg) : Binds K T.fd_check_form ["form"] [] := T.F_check_form.binds (ps := ["form"]) fun _ _ _ _ _ _ us hl => match us, hl with | [_], _ => rfl
theorem b_are_values (T : Txt K mg) : Binds K T.fd_are_values ["value"] [] := T.F_are_values.binds (ps := ["value"]) fun _ _ _ _ _ _ us hl => match us, hl with | [_], _ => rfl
theorem b_common (T : Txt K mg) : Binds K T.fd_common ["one", "other"] [] := T.F_common.binds (ps := ["one", "other"]) fun _ _ _ _ _ _ us hl => match us, hl with | [_, _], _ => rfl
theorem b_made (T : Txt K mg) : Binds K T.fd_made ["rows", "under"] [] := T.F_made.binds (ps := ["rows", "under"]) fun _ _ _ _ _ _ us hl => match us, hl with | [_, _], _ => rfl
theorem b_as_form (T : Txt K mg) : Binds K T.fd_as_form ["value"] [] := T.F_as_form.binds (ps := ["value"]) fun _ _ _ _ _ _ us hl => match us, hl with | [_], _ => rfl
theorem b_Form___init (T : Txt K mg) : Binds K T.fd_Form___init ["self", "rows", "under"] [] := T.F_Form___init.binds (ps := ["self", "rows", "under"]) fun _ _ _ _ _ _ us hl => match us, hl with | [_, _, _], _ => rfl
theorem b_Form___add (T : Txt K mg) : Binds K T.fd_Form___add ["self", "other"] [] := T.F_Form___add.binds (ps := ["self", "other"]) fun _ _ _ _ _ _ us hl => match us, hl with | [_, _], _ => rfl
theorem b_Form___neg (T : Txt K mg) : Binds K T.fd_Form___neg ["self"] [] := T.F_Form___neg.binds (ps := ["self"]) fun _ _ _ _ _ _ us hl => match us, hl with | [_], _ => rfl
theorem b_Form___sub (T : Txt K mg) : Binds K T.fd_Form___sub ["self", "other"] [] := T.F_Form___sub.binds (ps := ["self", "other"]) fun _ _ _ _ _ _ us hl => match us, hl with | [_, _], _ => rfl
theorem b_Form___mul (T : Txt K mg) : Binds K T.fd_Form___mul ["self", "other"] [] := T.F_Form___mul.binds (ps := ["self", "other"]) fun _ _ _ _ _ _ us hl => match us, hl with | [_, _], _ => rfl
theorem b_Form_over (T : Txt K mg) : Binds K T.fd_Form_over ["self", "divisor"] [] := T.F_Form_over.binds (ps := ["self", "divisor"]) fun _ _ _ _ _ _ us hl => match us, hl with | [_, _], _ => rfl
theorem b_Form___eq (T : Txt K mg) : Binds K T.fd_Form___eq ["self", "other"] [] := T.F_Form___eq.binds (ps := ["self", "other"]) fun _ _ _ _ _ _ us hl => match us, hl with | [_, _], _ => rfl
theorem b_Form_terms (T : Txt K mg) : Binds K T.fd_Form_terms ["self"] [] := T.F_Form_terms.binds (ps := ["self"]) fun _ _ _ _ _ _ us hl => match us, hl with | [_], _ => rfl
theorem b_Form_letters (T : Txt K mg) : Binds K T.fd_Form_letters ["self"] [] := T.F_Form_letters.binds (ps := ["self"]) fun _ _ _ _ _ _ us hl => match us, hl with | [_], _ => rfl
theorem b_Form_degree (T : Txt K mg) : Binds K T.fd_Form_degree ["self"] [] := T.F_Form_degree.binds (ps := ["self"]) fun _ _ _ _ _ _ us hl => match us, hl with | [_], _ => rfl
theorem b_Form_above (T : Txt K mg) : Binds K T.fd_Form_above ["self", "values"] [] := T.F_Form_above.binds (ps := ["self", "values"]) fun _ _ _ _ _ _ us hl => match us, hl with | [_, _], _ => rfl
theorem b_Form_at (T : Txt K mg) : Binds K T.fd_Form_at ["self", "values"] [] := T.F_Form_at.binds (ps := ["self", "values"]) fun _ _ _ _ _ _ us hl => match us, hl with | [_, _], _ => rfl
theorem b_Form_put (T : Txt K mg) : Binds K T.fd_Form_put ["self", "name", "other"] [] := T.F_Form_put.binds (ps := ["self", "name", "other"]) fun _ _ _ _ _ _ us hl => match us, hl with | [_, _, _], _ => rfl
theorem b_letter (T : Txt K mg) : Binds K T.fd_letter ["name"] [] := T.F_letter.binds (ps := ["name"]) fun _ _ _ _ _ _ us hl => match us, hl with | [_], _ => rfl
theorem b_number (T : Txt K mg) : Binds K T.fd_number ["value"] [] := T.F_number.binds (ps := ["value"]) fun _ _ _ _ _ _ us hl => match us, hl with | [_], _ => rfl
theorem b_law_purse (T : Txt K mg) : Binds K T.fd_law_purse ["_law_script", "_law_at"] [] := T.F_law_purse.binds (ps := ["_law_script", "_law_at"]) fun _ _ _ _ _ _ us hl => match us, hl with | [_, _], _ => rfl
theorem b_law_mixed (T : Txt K mg) : Binds K T.fd_law_mixed ["_law_seed", "_law_turn", "_law_at"] [] := T.F_law_mixed.binds (ps := ["_law_seed", "_law_turn", "_law_at"]) fun _ _ _ _ _ _ us hl => match us, hl with | [_, _, _], _ => rfl
theorem b_law_draw (T : Txt K mg) : Binds K T.fd_law_draw ["_law_purse_here", "_law_many"] [] := T.F_law_draw.binds (ps := ["_law_purse_here", "_law_many"]) fun _ _ _ _ _ _ us hl => match us, hl with | [_, _], _ => rfl
theorem b_law_purses (T : Txt K mg) : Binds K T.fd_law_purses ["_law_script", "_law_few"] [] := T.F_law_purses.binds (ps := ["_law_script", "_law_few"]) fun _ _ _ _ _ _ us hl => match us, hl with | [_, _], _ => rfl
theorem b_law_one_of (T : Txt K mg) : Binds K T.fd_law_one_of ["_law_purse_here", "_law_some"] [] := T.F_law_one_of.binds (ps := ["_law_purse_here", "_law_some"]) fun _ _ _ _ _ _ us hl => match us, hl with | [_, _], _ => rfl
theorem b_law_tree (T : Txt K mg) : Binds K T.fd_law_tree ["_law_purse_here", "_law_depth", "_law_names_here"] [] := T.F_law_tree.binds (ps := ["_law_purse_here", "_law_depth", "_law_names_here"]) fun _ _ _ _ _ _ us hl => match us, hl with | [_, _, _], _ => rfl
theorem b_law_worth (T : Txt K mg) : Binds K T.fd_law_worth ["_law_tree_here", "_law_values_here"] [] := T.F_law_worth.binds (ps := ["_law_tree_here", "_law_values_here"]) fun _ _ _ _ _ _ us hl => match us, hl with | [_, _], _ => rfl
theorem b_law_form (T : Txt K mg) : Binds K T.fd_law_form ["_law_tree_here"] [] := T.F_law_form.binds (ps := ["_law_tree_here"]) fun _ _ _ _ _ _ us hl => match us, hl with | [_], _ => rfl
theorem b_law_whole_at (T : Txt K mg) : Binds K T.fd_law_whole_at ["_law_tree_here", "_law_values_here"] [] := T.F_law_whole_at.binds (ps := ["_law_tree_here", "_law_values_here"]) fun _ _ _ _ _ _ us hl => match us, hl with | [_, _], _ => rfl
theorem b_law_values (T : Txt K mg) : Binds K T.fd_law_values ["_law_purse_here", "_law_names_here"] [] := T.F_law_values.binds (ps := ["_law_purse_here", "_law_names_here"]) fun _ _ _ _ _ _ us hl => match us, hl with | [_, _], _ => rfl
theorem b_law_names (T : Txt K mg) : Binds K T.fd_law_names ["_law_purse_here", "_law_many"] [] := T.F_law_names.binds (ps := ["_law_purse_here", "_law_many"]) fun _ _ _ _ _ _ us hl => match us, hl with | [_, _], _ => rfl
theorem b_law_common (T : Txt K mg) : Binds K T.fd_law_common ["_law_one", "_law_other"] [] := T.F_law_common.binds (ps := ["_law_one", "_law_other"]) fun _ _ _ _ _ _ us hl => match us, hl with | [_, _], _ => rfl
theorem b_law_terms_right (T : Txt K mg) : Binds K T.fd_law_terms_right ["_law_terms", "_law_values_here", "_law_form_here"] [] := T.F_law_terms_right.binds (ps := ["_law_terms", "_law_values_here", "_law_form_here"]) fun _ _ _ _ _ _ us hl => match us, hl with | [_, _, _], _ => rfl
theorem b_law_form_right (T : Txt K mg) : Binds K T.fd_law_form_right ["_law_purse_here", "_law_form_here", "_law_names_here"] [] := T.F_law_form_right.binds (ps := ["_law_purse_here", "_law_form_here", "_law_names_here"]) fun _ _ _ _ _ _ us hl => match us, hl with | [_, _, _], _ => rfl
theorem b_law_put_right (T : Txt K mg) : Binds K T.fd_law_put_right ["_law_purse_here", "_law_tree_here", "_law_other", "_law_names_here"] [] := T.F_law_put_right.binds (ps := ["_law_purse_here", "_law_tree_here", "_law_other", "_law_names_here"]) fun _ _ _ _ _ _ us hl => match us, hl with | [_, _, _, _], _ => rfl
theorem b_law_wholes_right (T : Txt K mg) : Binds K T.fd_law_wholes_right ["_law_form_here"] [] := T.F_law_wholes_right.binds (ps := ["_law_form_here"]) fun _ _ _ _ _ _ us hl => match us, hl with | [_], _ => rfl
theorem b_law_fractions_right (T : Txt K mg) : Binds K T.fd_law_fractions_right [] [] := T.F_law_fractions_right.binds (ps := []) fun _ _ _ _ _ _ us hl => match us, hl with | [], _ => rfl
theorem b_law_put_once_right (T : Txt K mg) : Binds K T.fd_law_put_once_right [] [] := T.F_law_put_once_right.binds (ps := []) fun _ _ _ _ _ _ us hl => match us, hl with | [], _ => rfl
end CP
open CP L2 in
local macro_rules | `(tactic| walk_at "at") => `(tactic| first
  | assumption
  | (refine CP.Same.to (by assumption) ?_; walk_at "at")
  | (refine CP.SB.to (by assumption) ?ne ?_; (case ne => walk_at "ne"); walk_at "at"))
open CP L2 in
local macro_rules | `(tactic| walk_at "ne") => `(tactic| first
  | assumption
  | (refine Ne.symm ?_; assumption)
  | (refine L2.ne_of_none (o := ?o) ?h1 (by assumption); (case h1 => walk_at "at"))
  | (refine Ne.symm (L2.ne_of_none (o := ?o) ?h1 (by assumption)); (case h1 => walk_at "at")))
open CP L2 in
local macro_rules | `(tactic| walk_at "sm") => `(tactic| first
  | assumption
  | exact L2.Same.refl _
  | (refine L2.Same.trans ?_ (by assumption); walk_at "sm")
  | (refine CP.Same.sb ?s ?n (by assumption); (case s => walk_at "sm"); (case n => walk_at "nn")))
open CP L2 in
local macro_rules | `(tactic| walk_at "nn") => `(tactic| first
  | assumption
  | (refine L2.Same.free ?s (by assumption); (case s => walk_at "sm"))
  | (refine CP.SB.free (by assumption) ?h ?n; (case h => walk_at "nn"); (case n => walk_at "ne")))
open CP L2 in
local macro_rules | `(tactic| walk_at "sq") => `(tactic| first
  | assumption
  | (refine L2.SqL.of ?_; walk_at "at")
  | (refine L2.SqT.of ?_; walk_at "at")
  | (refine L2.Same.seq (by assumption) ?_; walk_at "sq"))
open CP L2 in
local macro_rules | `(tactic| walk_at "side") => `(tactic| first
  | assumption
  | decide
  | (with_reducible refine CP.mul_ok ?_; omega)
  | (with_reducible refine CP.mul_okN ?_; omega)
  | (with_reducible refine CP.div_ok ?_; omega)
  | (show (0 : Int) < _; omega)
  | omega)
open CP L2 in
local macro_rules | `(tactic| walk_at "st") => `(tactic| simp only [L2.start, List.map_cons, List.map_nil, List.length_cons, List.length_nil, Nat.reduceAdd, Nat.reduceSub, List.replicate_succ, List.replicate_zero, List.cons_append, List.nil_append, List.append_nil])
open CP L2 in
local macro_rules | `(tactic| walk_at "s") => `(tactic| first
  | with_reducible refine CP.r_seq ?_
  | with_reducible refine CP.r_asg ?_
  | (with_reducible refine CP.r_name ?_; dsimp only [List.set_cons_zero, List.set_cons_succ])
  | with_reducible refine CP.r_var rfl ?_
  | with_reducible refine CP.r_c ?_
  | with_reducible refine CP.r_op ?_
  | with_reducible refine CP.r_I0 ?_
  | (with_reducible refine CP.r_I ?c ?_; (case c => walk_at "side"))
  | with_reducible refine CP.r_eqI ?_
  | with_reducible refine CP.r_neI ?_
  | with_reducible refine CP.r_test ?_
  | with_reducible refine CP.r_tB ?_
  | with_reducible refine CP.r_bl ?_
  | with_reducible refine CP.r_ifS ?_
  | with_reducible refine CP.if_t ?_
  | with_reducible refine CP.if_f ?_
  | with_reducible refine CP.if_nt ?_
  | with_reducible refine CP.if_nf ?_
  | with_reducible refine CP.r_cons ?_
  | with_reducible refine CP.r_nil ?_
  | with_reducible refine CP.r_call ?_
  | with_reducible refine CP.r_cb ?_
  | with_reducible refine CP.r_ret ?_
  | (with_reducible refine CP.r_par ?_)
  | (with_reducible refine CP.r_two ?_; dsimp only [List.set_cons_zero, List.set_cons_succ])
  | with_reducible refine CP.r_next ?_
  | with_reducible refine CP.r_and ?_
  | with_reducible refine CP.r_or ?_
  | with_reducible refine CP.r_not ?_
  | with_reducible refine CP.r_for ?_
  | with_reducible refine CP.r_iTup ?_
  | with_reducible refine CP.r_iList ?_
  | with_reducible refine CP.r_iRng1 ?_
  | (with_reducible refine CP.r_rng ?a ?b ?_; (case a => omega); (case b => omega))
  | with_reducible refine CP.r_tup ?_
  | with_reducible refine CP.r_lst ?_
  | with_reducible refine CP.r_dnewK ?_
  | (with_reducible refine CP.r_newO ?_; intro _ _ _ _ _)
  | (with_reducible refine CP.r_mk (by first | exact Nat.zero_le _ | (simp only [List.length_cons, List.length_nil, Nat.reduceAdd]; decide) | omega) ?_; intro _ _ _ _ _)
  | (with_reducible refine CP.r_len (ys := ?y) ?h ?_; (case h => walk_at "sq"))
  | (with_reducible refine CP.r_lenT (ys := ?y) ?h ?_; (case h => walk_at "sq"))
  | (with_reducible refine CP.r_list (ys := ?y) ?h ?_; (case h => walk_at "sq"); intro _ _ _ _ _)
  | with_reducible refine CP.r_max2 ?_
  | with_reducible refine CP.r_min2 ?_
  | with_reducible refine CP.r_abs ?_
  | with_reducible refine CP.r_int ?_
  | with_reducible refine CP.r_bits ?_
  | with_reducible refine CP.r_drop ?_
  | with_reducible refine CP.r_bm ?_
  | with_reducible refine CP.r_bm0 ?_
  | with_reducible refine CP.r_sl ?_
  | with_reducible refine CP.r_noPart ?_
  | with_reducible refine CP.r_part ?_
  | with_reducible refine CP.r_gsub ?_
  | (with_reducible refine CP.r_slL (xs := ?x) ?h ?_; (case h => walk_at "sq"); intro _ _ _ _ _)
  | (with_reducible refine CP.r_cat (xs := ?x) (ys := ?y) ?h ?h2 ?z ?_; (case h => walk_at "at"); (case h2 => walk_at "at"); (case z => first | omega | (simp only [List.length_map, List.length_cons, List.length_nil]; omega)); intro _ _ _ _ _)
  | with_reducible refine CP.r_lc ?_
  | (with_reducible refine CP.r_gtup (xs := ?x) ?h ?l ?_; (case h => walk_at "sq"); (case l => simp only [List.length_cons, List.length_nil, Nat.reduceAdd]))
  | with_reducible refine CP.r_gcons ?_
  | with_reducible refine CP.r_iRng2 ?_
  | (with_reducible refine CP.r_rng2 ?a ?_; (case a => omega))
  | with_reducible refine CP.r_neB ?_
  | with_reducible refine CP.r_eqB ?_
  | with_reducible refine CP.r_dget2 ?_
  | with_reducible refine CP.r_sdput ?_
  | (with_reducible refine CP.r_disp1 ?_; intro _ _ _ _ _)
  | with_reducible refine CP.r_gnil ?_
  | with_reducible refine CP.r_callW ?_
  | with_reducible refine CP.r_callD ?_
  | with_reducible refine CP.r_retN ?_
  | with_reducible refine CP.r_andV ?_
  | with_reducible refine CP.r_orV ?_
  | with_reducible refine CP.r_notV ?_
  | (with_reducible refine CP.r_isi (n := ?n) ?t ?c ?_; (case t => first | assumption | exact CP.tk_int | exact CP.tk_bl | exact CP.tk_non | exact CP.tk_str); (case c => decide))
  | with_reducible refine CP.r_ifE ?_)
open CP L2 in
local macro_rules | `(tactic| walk_at "d") => `(tactic| first
  | (with_reducible refine CP.r_name ?_; dsimp only [L2.wipe, List.set_cons_zero, List.set_cons_succ])
  | with_reducible refine CP.r_chain ?_
  | with_reducible refine CP.r_eqXS ?_
  | with_reducible refine CP.r_neXS ?_
  | with_reducible refine CP.r_eqXI ?_
  | with_reducible refine CP.r_neXI ?_
  | with_reducible refine CP.r_dc ?_
  | with_reducible refine CP.r_par3 ?_
  | with_reducible refine CP.r_iEnum ?_
  | with_reducible refine CP.r_makeK ?_
  | with_reducible refine CP.r_iKeys ?_
  | with_reducible refine CP.r_revL ?_
  | (with_reducible refine CP.r_three ?_; dsimp only [List.set_cons_zero, List.set_cons_succ])
  | with_reducible refine CP.r_notNr ?_
  | with_reducible refine CP.r_notNn ?_
  | with_reducible refine CP.r_isNr ?_
  | with_reducible refine CP.r_isNn ?_
  | with_reducible refine CP.r_lc2 ?_
  | with_reducible refine CP.r_iStr ?_
  | with_reducible refine CP.r_strx ?_
  | with_reducible refine CP.r_inS ?_
  | with_reducible refine CP.r_notInS ?_
  | with_reducible refine CP.r_tfld ?_
  | with_reducible refine CP.r_sfld ?_
  | with_reducible refine CP.r_tmake ?_
  | with_reducible refine CP.r_tmeth ?_
  | with_reducible refine CP.r_tdni ?_
  | with_reducible refine CP.r_tdin ?_
  | with_reducible refine CP.r_tdget ?_
  | (with_reducible refine CP.r_lookI (kvs := ?k) ?h ?_; (case h => walk_at "at"))
  | (with_reducible refine CP.r_lookS (kvs := ?k) ?h ?_; (case h => walk_at "at"))
  | (with_reducible refine CP.r_isD (kvs := ?k) ?h ?_; (case h => walk_at "at"))
  | (with_reducible refine CP.r_dget2I (kvs := ?k) ?h ?_; (case h => walk_at "at"))
  | (with_reducible refine CP.r_dget2S (kvs := ?k) ?h ?_; (case h => walk_at "at"))
  | with_reducible refine CP.r_un ?_
  | with_reducible refine CP.r_unI ?_
  | with_reducible refine CP.r_callSD ?_
  | with_reducible refine CP.r_methSD ?_
  | with_reducible refine CP.r_opS ?_
  | with_reducible refine CP.r_tryK ?_
  | with_reducible refine CP.r_raise0 ?_
  | with_reducible refine CP.r_raise ?_
  | with_reducible refine CP.r_errF ?_)
open CP L2 in
local macro_rules | `(tactic| walk_at "w") => `(tactic| first
  | walk_at "s"
  | walk_at "d")

namespace CP
open PySem L2
section
variable {P : Program} {w : World} {K : PySem.W.Frag} {mg : Str → Option Value} {base : Heap}
def sp_common (_ : Txt K mg) : Sp := fun vs H Q _ => match vs with
  | [.int a, .int b] => Q (.int (Int.gcd a b : Nat)) H
  | _ => False
@[reducible] def t_common_0 (w : World) (T : Txt K mg) : TS := tPar 0 1 (tCons (tVar 1) (tCons (tOp oModN (tVar 0) (tVar 1)) (tNil)))
def t_common (w : World) (T : Txt K mg) : TS := tSeq (tWhile (tTest (tOp rNe (tVar 1) (tC (.int 0)))) (t_common_0 w T)) (tRet (tCB oAbs (tCons (tVar 0) (tNil))))
theorem len_common (T : Txt K mg) : ∀ (vs : List V) (H : Hp) (Q : VK) (E : XK), sp_common T vs H Q E → vs.length = (["one", "other"] : List Str).length := by
  intro vs H Q E h
  unfold sp_common at h
  split at h
  all_goals first | rfl | exact h.elim
theorem rd_common (T : Txt K mg) (vs : List V) (H : Hp) (Q : VK) (E : XK) (h : sp_common T vs H Q E) : t_common w T { nx := fun _ H' => Q .non H', rt := Q } (start ["one", "other"] vs) H := by
  match vs, h with
  | [.int a, .int b], q =>
  have q : Q (.int (Int.gcd a b : Nat)) H := q
  unfold t_common
  walk_at "st"
  repeat walk_at "s"
  refine r_whileD (fun (z : Int × Int) σ H' => H' = H ∧ Int.gcd z.1 z.2 = Int.gcd a b ∧ σ = [some (.int z.1), some (.int z.2)]) (fun z => z.2.natAbs) (fun z => !decide (z.2 = 0)) (a, b) ⟨rfl, rfl, rfl⟩ ?_ ?_ ?_
  · rintro ⟨i, j⟩ σ H' ⟨rfl, g, rfl⟩ P hP
    repeat walk_at "s"
    exact hP
  · rintro ⟨i, j⟩ σ H' ⟨rfl, g, rfl⟩ hk
    have hk : j ≠ 0 := by simpa using hk
    dsimp only at g ⊢
    repeat walk_at "s"
    exact ⟨(j, i.fmod j), ⟨rfl, gcd_fmod.trans g, rfl⟩, fmod_less hk⟩
  · rintro ⟨i, j⟩ σ H' ⟨rfl, g, rfl⟩ hk
    have hk : j = 0 := by simpa using hk
    subst hk
    dsimp only at g ⊢
    rw [Int.gcd_zero_right] at g
    repeat walk_at "s"
    rw [show (if i < 0 then -i else i) = ((Int.gcd a b : Nat) : Int) by rw [← g]; split <;> omega]
    exact q

theorem ok_common (T : Txt K mg) : FnOk T.z.1 T.z.2 K mg base CX0 1 T.a_common T.fd_common ["one", "other"] (sp_common T) :=
  T.F_common.ok sc_common (len_common T) fun cdv A outer s H vs Q E hr h => ⟨t_common T.z.2 T, (pss_cons (ps_while PassesOwn.never (pt_cmpR op_ne (pv 1) pe_int (nomark _)) (pss_one (ps_par (i := 0) (j := 1) rfl sc_common.nd rfl rfl (by decide) rfl rfl (pa_cons (pv 1) (pa_cons (pe_op op_modN (pv 0) (pv 1)) pa_nil)) (by rfl))))
      (pss_one (ps_ret (pe_callB call_absA (by rfl) T.n_abs (by decide +kernel) (pa_cons (pv 0) pa_nil))))), rd_common T vs H Q E h⟩
end
end CP

namespace CP
open PySem L2
section
variable {P : Program} {w : World} {K : PySem.W.Frag} {mg : Str → Option Value} {base : Heap}
def sp_Form___init (T : Txt K mg) : Sp := fun vs H Q _ => match vs with
  | [.ref o, .ref d, .int u] => ∃ dx, H o = some (.ins T.a_Form dx []) ∧ ∀ H', SB o H H' → H' o = some (.ins T.a_Form dx [("rows", .ref d), ("under", .int u)]) → Q .non H'
  | _ => False
theorem form_new (T : Txt K mg) {H : Hp} {d : Addr} {n : Int} {Q : Addr → Hp → Prop} {E : XK} (q : ∀ o dx H', H o = none → Same H H' → H' o = some (.ins T.a_Form dx [("rows", .ref d), ("under", .int n)]) → Q o H') :
    ∀ x dx, H x = none → H dx = none → dx ≠ x → sp_Form___init T (.ref x :: ([.ref d, .int n] ++ [])) (upd (upd H dx (.own x)) x (.ins T.a_Form dx [])) (fun v H2 => v = .non ∧ Q x H2) E := by
  intro o dx o0 dx0 ne
  have s : Same H (upd (upd H dx (.own o)) o (.ins T.a_Form dx [])) := fun b u hb => by rw [upd_ne (ne_of_none hb o0), upd_ne (ne_of_none hb dx0)]; exact hb
  exact ⟨dx, upd_same, fun H2 b2 h2 => ⟨rfl, q o dx H2 o0 (CP.Same.sb s o0 b2) h2⟩⟩
def t_Form___init (w : World) (T : Txt K mg) : TS := tSeq (sFld K (tVar 0) (tVar 1) "rows") (sFld K (tVar 0) (tVar 2) "under")
theorem len_Form___init (T : Txt K mg) : ∀ (vs : List V) (H : Hp) (Q : VK) (E : XK), sp_Form___init T vs H Q E → vs.length = (["self", "rows", "under"] : List Str).length := by
  intro vs H Q E h
  unfold sp_Form___init at h
  split at h
  all_goals first | rfl | exact h.elim
theorem rd_Form___init (T : Txt K mg) (vs : List V) (H : Hp) (Q : VK) (E : XK) (h : sp_Form___init T vs H Q E) : t_Form___init w T { nx := fun _ H' => Q .non H', rt := Q } (start ["self", "rows", "under"] vs) H := by
  match vs, h with
  | [.ref o, .ref d, .int u], h =>
  obtain ⟨dx, ho, q⟩ := h
  unfold t_Form___init
  walk_at "st"
  repeat walk_at "w"
  refine r_fput ho T.c_Form T.n_Form_rows (by decide) fun H1 b1 h1 => ?_
  repeat walk_at "w"
  refine r_fput h1 T.c_Form T.n_Form_under (show 1 < 1000 by decide) fun H2 b2 h2 => ?_
  exact q H2 (SB.trans' b1 b2) h2

theorem ok_Form___init (T : Txt K mg) : FnOk T.z.1 T.z.2 K mg base CX0 1 T.a_Form___init T.fd_Form___init ["self", "rows", "under"] (sp_Form___init T) :=
  T.F_Form___init.ok sc_Form___init (len_Form___init T) fun cdv A outer s H vs Q E hr h => ⟨t_Form___init T.z.2 T, (pss_cons (ps_fld (pv 0) (pv 1) rfl)
      (pss_one (ps_fld (pv 0) (pv 2) rfl))), rd_Form___init T vs H Q E h⟩
end
end CP

namespace CP
open PySem L2
section
variable {P : Program} {w : World} {K : PySem.W.Frag} {mg : Str → Option Value} {base : Heap}
def sp_made (T : Txt K mg) : Sp := fun vs H Q _ => match vs with
  | [.ref d, .int u] => ∃ rs, DZ T.z H d (rowsT rs) ∧ rs.length ≤ 1000000 ∧ 0 < u ∧ u < 2 ^ 400 ∧ ∀ o H', H o = none → Same H H' → FormZ T.z T.a_Form H' o (madeM rs u) → Q (.ref o) H'
  | _ => False
theorem rowsT_un {rs : List Tm} (h : ((rowsT rs).map (·.1)).Nodup) : (rs.map (·.1)).Nodup := by
  unfold rowsT at h
  rw [List.map_map] at h
  have h2 : ((rs.map (·.1)).map keyT).Nodup := by rw [List.map_map]; exact h
  exact List.Pairwise.of_map keyT (fun a b ne e => ne (by rw [e])) h2
@[reducible] def t_made_0 (w : World) (T : Txt K mg) : TS := tAsg (tCall (sp_common T) [] E0 (tCons (tVar 5) (tCons (tVar 4) (tNil)))) (gName 5)
@[reducible] def t_made_1 (w : World) (T : Txt K mg) : TS := tRet (tMake T.a_Form (sp_Form___init T) [] E0 (tCons (tDgZ T.z (iItemsZ (tVar 2)) (gTup K 2 (gCons (gName 3) (gCons (gName 4) gNil))) (tYes) (tVar 3) (tOp oDiv (tVar 4) (tVar 5)) [3, 4]) (tCons (tOp oDiv (tVar 1) (tVar 5)) (tNil))))
@[reducible] def t_made_2 (w : World) (T : Txt K mg) : TS := tSeq (tFor (iValsZ (tVar 2)) (gName 4) (t_made_0 w T)) (t_made_1 w T)
def t_made (w : World) (T : Txt K mg) : TS := tSeq (tAsg (tDgZ T.z (iItemsZ (tVar 0)) (gTup K 2 (gCons (gName 3) (gCons (gName 4) gNil))) (tTest (tOp rNe (tVar 4) (tC (.int 0)))) (tVar 3) (tVar 4) [3, 4]) (gName 2)) (tSeq (tAsg (tVar 1) (gName 5)) (t_made_2 w T))
theorem len_made (T : Txt K mg) : ∀ (vs : List V) (H : Hp) (Q : VK) (E : XK), sp_made T vs H Q E → vs.length = (["rows", "under"] : List Str).length := by
  intro vs H Q E h
  unfold sp_made at h
  split at h
  all_goals first | rfl | exact h.elim
theorem rd_made (T : Txt K mg) (vs : List V) (H : Hp) (Q : VK) (E : XK) (h : sp_made T vs H Q E) : t_made w T { nx := fun _ H' => Q .non H', rt := Q } (start ["rows", "under", "kept", "product", "many", "divisor"] vs) H := by
  match vs, h with
  | [.ref d, .int u], h =>
  obtain ⟨rs, hd, few, u0, u1, q⟩ := h
  have sz : sizeLine = 16777216 := rfl
  have ndT := hd.nd
  have nd := rowsT_un ndT
  obtain ⟨od, hd⟩ := hd
  unfold t_made
  walk_at "st"
  walk_at "w"
  walk_at "w"
  refine r_dgZ ?_
  refine r_iItemsZ ?_
  walk_at "w"
  refine ⟨T.z, d, od, _, rfl, hd, fun D D0 => dg_pz (rs.map fun r => (if r.2 = 0 then none else some r.2).map V.int) ndT D0 hd (by rw [rowsT_len, List.length_map]) (by rw [rowsT_len]; omega) (fun i k v o t q H2 H3 N hk ho s2 t0 hq s3 ht no yes => ?_) fun H2 s2 hD => ?_⟩
  · obtain ⟨r, hr, rfl, rfl⟩ := rowsT_get hk
    have ho : o = (if r.2 = 0 then none else some r.2).map V.int := by
      rw [List.getElem?_map, hr] at ho
      exact (Option.some.inj ho).symm
    repeat walk_at "w"
    refine ⟨rfl, ?_⟩
    repeat walk_at "w"
    refine if_nd (fun k => ?_) fun k => ?_
    · repeat walk_at "w"
      exact yes _ (by rw [ho, if_neg k]; rfl) H3 (Same.refl _)
    · exact no (by rw [ho, if_pos k]; rfl) H3 (Same.refl _)
  rw [acc_rows, kept_eq] at hD
  repeat walk_at "w"
  refine r_iValsZ ?_
  repeat walk_at "w"
  have kn := kept_nd nd
  have kl := kept_len rs
  obtain ⟨g0, g1⟩ := divM_pos (rs := keptM rs) u0
  have knT := hD.nd
  obtain ⟨od2, hD⟩ := hD
  refine ⟨T.z, D, od2, _, rfl, hD, for_vz (fun i σ H' => H' = H2 ∧ ∃ x3 x4, σ = [some (.ref d), some (.int u), some (.ref D), x3, x4, some (.int (divM ((keptM rs).take i) u))]) ⟨rfl, _, _, rfl⟩ (fun i σ H' _ w => w.1 ▸ hD) ?_ ?_⟩
  · rintro i k v σ H5 hk ⟨rfl, x3, x4, rfl⟩
    obtain ⟨r, hr, rfl, rfl⟩ := rowsT_get hk
    repeat walk_at "w"
    have e := divM_succ (u := u) hr
    exact ⟨rfl, x3, some (.int r.2), by rw [e]; rfl⟩
  · rintro σ H5 ⟨rfl, x3, x4, rfl⟩
    rw [rowsT_len, List.take_length]
    have fin : ∀ o H', H o = none → Same H H' → FormZ T.z T.a_Form H' o ((keptM rs).map (fun r => (r.1, r.2 / divM (keptM rs) u)), u / divM (keptM rs) u) → Q (.ref o) H' := q
    generalize divM (keptM rs) u = G at *
    clear q
    repeat walk_at "w"
    refine r_dgZ ?_
    refine r_iItemsZ ?_
    repeat walk_at "w"
    refine ⟨T.z, D, od2, _, rfl, hD, fun D2 D20 => dg_pz ((keptM rs).map fun r => (some (r.2 / G)).map V.int) knT D20 hD (by rw [rowsT_len, List.length_map]) (by rw [rowsT_len]; omega) (fun i k v o t q H8 H9 N hk ho s8 t0 hq s9 ht no yes => ?_) fun H8 s8 hD2 => ?_⟩
    · obtain ⟨r, hr, rfl, rfl⟩ := rowsT_get hk
      have ho : o = (some (r.2 / G)).map V.int := by
        rw [List.getElem?_map, hr] at ho
        exact (Option.some.inj ho).symm
      repeat walk_at "w"
      refine ⟨rfl, r_yes (if_t ?_)⟩
      repeat walk_at "w"
      exact yes _ ho H9 (Same.refl _)
    rw [acc_rows, div_eq] at hD2
    repeat walk_at "w"
    refine form_new T fun o dx H10 o0 s10 ho => ?_
    have S8 := s2.trans s8
    exact fin o H10 (L2.Same.free S8 o0) (S8.trans s10) ⟨dx, D2, ho, hD2.mono s10⟩

theorem ok_made (T : Txt K mg) : FnOk T.z.1 T.z.2 K mg base CX0 3 T.a_made T.fd_made ["rows", "under"] (sp_made T) :=
  T.F_made.ok sc_made (len_made T) fun cdv A outer s H vs Q E hr h => ⟨t_made T.z.2 T, (pss_cons (ps_setDgZ (i := 2) (own := [("product", 3), ("many", 4)]) (g := (gTup K 2 (gCons (gName 3) (gCons (gName 4) gNil)))) (tt := tTest (tOp rNe (tVar 4) (tC (.int 0)))) (tk := tVar 3) (tv := tVar 4) hr.units0 rfl sc_made.nd rfl rfl (swd_true rfl rfl rfl (by decide +kernel)) (pi_itemsZ (pv 0)) (blkOk_by (own := [("product", 3), ("many", 4)]) (N := ["rows", "under", "kept", "product", "many", "divisor"]) (sc := defScope s_made) (by decide +kernel)) (fun _ _ _ _ _ => (pg_tup rfl (pgs_cons (pg_name (i := 3) sc_made.nd rfl (Or.inl rfl)) (pgs_cons (pg_name (i := 4) sc_made.nd rfl (Or.inl rfl)) pgs_nil)))) (fun _ _ _ _ _ => (pts_one (pt_cmpR op_ne (pv 4) pe_int (nomark _)))) (fun _ _ _ _ _ => (pv 3)) (fun _ _ _ _ _ => (pv 4)))
      (pss_cons (ps_set (i := 5) sc_made.nd rfl (Or.inr rfl) (pv 1))
      (pss_cons (ps_for PassesOwn.never rfl (pi_valuesZ (pv 2)) (pg_name (i := 4) sc_made.nd rfl (Or.inl rfl)) (pss_one (ps_set (i := 5) sc_made.nd rfl (Or.inr rfl) (pe_call (ok_common T) (hr.mono (by decide)) (by rfl) T.m_common T.F_common.kp (b_common T) .nil pass0 (pa_cons (pv 5) (pa_cons (pv 4) pa_nil))))))
      (pss_one (ps_ret (pe_make T.k_Form (ok_Form___init T) (hr.mono (by decide)) (by rfl) T.m_Form (b_Form___init T) .nil pass0 (pa_cons (pe_dgZ (own := [("product", 3), ("many", 4)]) (g := (gTup K 2 (gCons (gName 3) (gCons (gName 4) gNil)))) (tt := tYes) (tk := tVar 3) (tv := tOp oDiv (tVar 4) (tVar 5)) hr.units0 rfl sc_made.nd (pi_itemsZ (pv 2)) (blkOk_by (own := [("product", 3), ("many", 4)]) (N := ["rows", "under", "kept", "product", "many", "divisor"]) (sc := defScope s_made) (by decide +kernel)) (fun _ _ _ _ _ => (pg_tup rfl (pgs_cons (pg_name (i := 3) sc_made.nd rfl (Or.inl rfl)) (pgs_cons (pg_name (i := 4) sc_made.nd rfl (Or.inl rfl)) pgs_nil)))) (fun _ _ _ _ _ => pts_nil) (fun _ _ _ _ _ => (pv 3)) (fun _ _ _ _ _ => (pe_op op_fdivW (pv 4) (pv 5)))) (pa_cons (pe_op op_fdivW (pv 1) (pv 5)) pa_nil)))))))), rd_made T vs H Q E h⟩
end
end CP

namespace CP
open PySem L2 LamX
section
variable {P : Program} {w : World} {K : PySem.W.Frag} {mg : Str → Option Value} {base : Heap}
def termM (f : Fm) (p : List Str) : Int × Int × List Str := (getT f.1 p / (Int.gcd (getT f.1 p) f.2 : Nat), (f.2 : Int) / (Int.gcd (getT f.1 p) f.2 : Nat), p)
/-- the terms of a form, those with fewer letters first -/
def termsM (f : Fm) : List (Int × Int × List Str) := (ordP (f.1.map (·.1))).map (termM f)
def TermAt (H : Hp) (v : V) (t : Int × Int × List Str) : Prop := ∃ a b, v = .ref a ∧ H a = some (.tup [.int t.1, .int t.2.1, .ref b]) ∧ H b = some (.lst (strL t.2.2))
theorem TermAt.mono {H H' : Hp} {v : V} {t : Int × Int × List Str} (h : TermAt H v t) (s : Same H H') : TermAt H' v t := let ⟨a, b, e, h1, h2⟩ := h; ⟨a, b, e, s _ _ h1, s _ _ h2⟩
def TermsAt (H : Hp) (g : Addr) (ts : List (Int × Int × List Str)) : Prop := ∃ vs, H g = some (.lst vs) ∧ Paired (TermAt H) vs ts
/-- nothing stood there but a table -/
def NewN (H : Hp) (b : Addr) : Prop := ∀ o, H b = some o → ∃ xs, o = .tbl xs
def TermN (H H' : Hp) (v : V) (t : Int × Int × List Str) : Prop := ∃ a b, v = .ref a ∧ H' a = some (.tup [.int t.1, .int t.2.1, .ref b]) ∧ H' b = some (.lst (strL t.2.2)) ∧ NewN H b
theorem TermN.mono {H H1 H2 : Hp} {v : V} {t : Int × Int × List Str} (h : TermN H H1 v t) (s : Same H1 H2) : TermN H H2 v t := let ⟨a, b, e, h1, h2, h3⟩ := h; ⟨a, b, e, s _ _ h1, s _ _ h2, h3⟩
def TermsN (H H' : Hp) (g : Addr) (ts : List (Int × Int × List Str)) : Prop := ∃ vs, H' g = some (.lst vs) ∧ Paired (TermN H H') vs ts
theorem TermsN.at {H H' : Hp} {g : Addr} {ts : List (Int × Int × List Str)} (h : TermsN H H' g ts) : TermsAt H' g ts := let ⟨vs, h1, h2⟩ := h; ⟨vs, h1, pd_mono h2 fun _ _ ⟨a, b, e, h1, h2, _⟩ => ⟨a, b, e, h1, h2⟩⟩
def tabF (P : Addr) : List (Addr × Str) := [(P, "Form.terms.<locals>.<lambda>")]
theorem FormZ.ext {z : Pw} {C : Addr} {H H' : Hp} {o : Addr} {f : Fm} (h : FormZ z C H o f) (e : LamX.ExtN H H') : FormZ z C H' o f := h.keep (fun b o u w => e b _ w fun _ z => by cases z) fun dx fs w => e _ _ w fun _ z => by cases z
theorem tabs_hid {T : List (Addr × Str)} {H : Hp} {p : Addr} {xs : List V} (t : LamX.Tabs T H) (hp : H p = some (.lst xs)) : LamX.Tabs T (hide p H) := fun r hr => by
  obtain ⟨ps, h1, h2, h3⟩ := t r hr
  refine ⟨ps, by rw [hide_ne (fun z => by rw [z, hp] at h1; cases h1)]; exact h1, h2, fun pos cv hc => ?_⟩
  obtain ⟨c, e1, e2⟩ := h3 pos cv hc
  exact ⟨c, e1, by rw [hide_ne (fun z => by rw [z, hp] at e2; cases e2)]; exact e2⟩
def sp_Form_terms (T : Txt K mg) : Sp := fun vs H Q _ => match vs with
  | [.ref o] => ∃ f, FormZ T.z T.a_Form H o f ∧ FOk f ∧ LamX.Tabs (tabF T.tP) H ∧ ∀ g H', H g = none → LamX.ExtN H H' → LamX.Tabs (tabF T.tP) H' → TermsN H H' g (termsM f) → Q (.ref g) H'
  | _ => False
@[reducible] def t_Form_terms_0 (w : World) (T : Txt K mg) : TS := tDrop (tBM K "list" rAppend (tVar 1) (tCons (tTup (tCons (tOp oDiv (tDSubZ T.z (tFld K (tVar 0) "rows") (tVar 2)) (tVar 3)) (tCons (tOp oDiv (tFld K (tVar 0) "under") (tVar 3)) (tCons (tCB ((oList K)) (tCons (tVar 2) (tNil))) (tNil))))) (tNil)))
@[reducible] def t_Form_terms_1 (w : World) (T : Txt K mg) : TS := tSeq (tAsg (tCall (sp_common T) [] E0 (tCons (tDSubZ T.z (tFld K (tVar 0) "rows") (tVar 2)) (tCons (tFld K (tVar 0) "under") (tNil)))) (gName 3)) (t_Form_terms_0 w T)
@[reducible] def t_Form_terms_2 (w : World) (T : Txt K mg) : TS := tSeq (tFor (iList K ((tSortLamZ T.z [(T.tP, "Form.terms.<locals>.<lambda>")] ["self", "found", "product", "divisor"] "one" (tFld K (tVar 0) "rows") (tTup (tCons (tCB (rLenA K) (tCons (tVar 4) (tNil))) (tCons (tVar 4) (tNil))))))) (gName 2) (t_Form_terms_1 w T)) (tRet (tVar 1))
def t_Form_terms (w : World) (T : Txt K mg) : TS := tSeq (tAsg (tLst (tNil)) (gName 1)) (t_Form_terms_2 w T)
theorem len_Form_terms (T : Txt K mg) : ∀ (vs : List V) (H : Hp) (Q : VK) (E : XK), sp_Form_terms T vs H Q E → vs.length = (["self"] : List Str).length := by
  intro vs H Q E h
  unfold sp_Form_terms at h
  split at h
  all_goals first | rfl | exact h.elim
theorem rd_Form_terms (T : Txt K mg) (vs : List V) (H : Hp) (Q : VK) (E : XK) (h : sp_Form_terms T vs H Q E) : t_Form_terms w T { nx := fun _ H' => Q .non H', rt := Q } (start ["self", "found", "product", "divisor"] vs) H := by
  match vs, h with
  | [.ref o], h =>
  obtain ⟨f, hf, fo, hT, q⟩ := h
  have sz : sizeLine = 16777216 := rfl
  have few := fo.few
  unfold t_Form_terms
  walk_at "st"
  repeat walk_at "w"
  rename_i p H1 p0 s1 hp
  unfold tSortLamZ
  repeat walk_at "w"
  obtain ⟨dx, d, ho, hd⟩ := id hf
  have hd1 := hd.mono s1
  refine r_fget (CP.Same.to s1 ho) T.c_Form T.n_Form_rows (by rfl) ?_
  refine ⟨d, rfl, hT.ext s1, fun H2 e2 T2 => ⟨rowsT f.1, f.1.map (·.1), hd1.keep (fun b o u w => e2 b _ w fun _ z => (by cases z)), by unfold rowsT; rw [List.map_map, List.map_map]; rfl, fun t k H3 hk ht kp => ?_, fun g H3 vs kp g0 pr => ?_⟩⟩
  · change tTup (tCons (tCB (rLenA K) (tCons (tVar 4) tNil)) (tCons (tVar 4) tNil)) [some (.ref o), some (.ref p), none, none, some (.ref t)] H3 _
    repeat walk_at "w"
    refine r_lenT ht.sq ?_
    rw [strL_len]
    repeat walk_at "w"
    rename_i w H4 w0 s4 hw
    exact ⟨⟨w, rfl, hw⟩, s4⟩
  rw [sort_is] at pr
  have sg : Same H3 (upd H3 g (.lst vs)) := same_new g0
  have hg : (upd H3 g (.lst vs)) g = some (.lst vs) := upd_same
  have gp : g ≠ p := fun z => by
    have hp3 := kp _ _ (e2 _ _ hp (fun _ z => by cases z))
    rw [← z, g0] at hp3
    cases hp3
  generalize upd H3 g (.lst vs) = H7 at sg hg ⊢
  have E17 : LamX.ExtN H1 H7 := e2.trans ((LamX.ExtN.of kp).trans (LamX.ExtN.of sg))
  have E7 : LamX.ExtN H H7 := (LamX.ExtN.of s1).trans E17
  have T7 : LamX.Tabs (tabF T.tP) H7 := (LamX.Tabs.ext T2 kp).ext sg
  have pr7 : Paired (fun v k => ∃ q, v = .ref q ∧ TupZ H7 q (strL k)) vs (ordP (f.1.map (·.1))) := pd_mono pr fun _ _ ⟨q, e, w⟩ => ⟨q, e, w.mono sg⟩
  have hf7 := hf.ext E7
  have hp7 := E17 _ _ hp (fun _ z => by cases z)
  have pm := ordP_perm (f.1.map (·.1))
  have ol : (ordP (f.1.map (·.1))).length = f.1.length := by rw [pm.length_eq, List.length_map]
  have vl := pd_len pr7
  repeat walk_at "w"
  refine ⟨g, rfl, ⟨_, .of hg⟩, for_list (K := K) (a := g) (xs := vs) (fun i σ H' => H' g = some (.lst vs) ∧ Same (hide p H7) (hide p H') ∧ (∃ acc, H' p = some (.lst acc) ∧ Paired (TermN H (hide p H')) acc (((ordP (f.1.map (·.1))).map (termM f)).take i)) ∧ ∃ x2 x3, σ = [some (.ref o), some (.ref p), x2, x3]) ⟨hg, Same.refl _, ⟨[], hp7, .nil⟩, _, _, rfl⟩ (fun _ _ _ _ w => .of w.1) ?_ ?_⟩
  · rintro i x σ H8 hx ⟨hg8, s8, ⟨acc, hp8, pa⟩, x2, x3, rfl⟩
    obtain ⟨k, hk, t, rfl, ht⟩ := pd_get pr7 hx
    have km : k ∈ f.1.map (·.1) := pm.mem_iff.mp (List.mem_of_getElem? hk)
    obtain ⟨r, hr, rk⟩ := List.mem_map.mp km
    have nf : ∀ o u, H7 p ≠ some (.frz o u) := fun o u z => by rw [hp7] at z; cases z
    have hf8 : FormZ T.z T.a_Form (hide p H8) o f := hf7.keep (fun b o u w => s8 _ _ (by rw [hide_ne (fun z => nf o u (by rw [← z]; exact w))]; exact w)) fun dx fs w => s8 _ _ (by rw [hide_ne (fun z => by rw [z, hp7] at w; cases w)]; exact w)
    have ht8 : TupZ (hide p H8) t (strL k) := by
      obtain ⟨ot, h1, h2⟩ := ht
      exact ⟨ot, s8 _ _ (by rw [hide_ne (fun z => nf _ _ (z ▸ h1))]; exact h1), h2⟩
    have hf8 := hf8.mono hide_same
    have ht8 := ht8.mono hide_same
    obtain ⟨dx, d, ho8, hd8⟩ := id hf8
    have gt : valV (rowsT f.1) (keyT k) = some (.int (getT f.1 k)) := by
      have a := valV_row fo.nd hr
      rw [rk] at a
      have b := getT_val f.1 k
      rw [a] at b ⊢
      exact congrArg some b
    have un := fo.pos
    have gq : 0 < (Int.gcd (getT f.1 k) f.2 : Nat) := Int.gcd_pos_of_ne_zero_right _ (by omega)
    have gl : ((Int.gcd (getT f.1 k) f.2 : Nat) : Int) ≤ f.2 := Int.le_of_dvd un.1 (Int.gcd_dvd_right _ _)
    have nb : (getT f.1 k).natAbs < 2 ^ 200 := by
      have a := valV_row fo.nd hr
      rw [rk, gt] at a
      have := fo.num r hr
      rw [V.int.inj (Option.some.inj a)]
      exact this
    have tm : termM f k = (getT f.1 k / (Int.gcd (getT f.1 k) f.2 : Nat), (f.2 : Int) / (Int.gcd (getT f.1 k) f.2 : Nat), k) := rfl
    generalize hG : Int.gcd (getT f.1 k) f.2 = G at *
    generalize hG2 : getT f.1 k = A at *
    repeat walk_at "w"
    refine r_dsubZ ?_
    repeat walk_at "w"
    refine r_fget ho8 T.c_Form T.n_Form_rows (by rfl) ?_
    repeat walk_at "w"
    refine ⟨d, _, keyT k, t, _, rfl, rfl, .inr hd8, .inr (by rw [keyT_V]; exact ht8), gt, ?_⟩
    repeat walk_at "w"
    refine r_fget ho8 T.c_Form T.n_Form_under (by rfl) ?_
    repeat walk_at "w"
    unfold sp_common
    dsimp only [List.cons_append, List.nil_append]
    repeat walk_at "w"
    refine ⟨.inl ⟨rfl, _, .of hp8⟩, ?_⟩
    repeat walk_at "w"
    refine r_dsubZ ?_
    repeat walk_at "w"
    refine r_fget ho8 T.c_Form T.n_Form_rows (by rfl) ?_
    repeat walk_at "w"
    refine ⟨d, _, keyT k, t, _, rfl, rfl, .inr hd8, .inr (by rw [keyT_V]; exact ht8), gt, ?_⟩
    repeat walk_at "w"
    refine r_fget ho8 T.c_Form T.n_Form_under (by rfl) ?_
    repeat walk_at "w"
    refine ⟨t, strL k, rfl, .inr ht8.sq, fun l l0 => ?_⟩
    have s89 : Same H8 (upd H8 l (.lst (strL k))) := same_new l0
    have hl9 : (upd H8 l (.lst (strL k))) l = some (.lst (strL k)) := upd_same
    generalize upd H8 l (.lst (strL k)) = H9 at s89 hl9 ⊢
    repeat walk_at "w"
    rename_i w H10 w0 s10 hw
    have al := pd_len pa
    have hp10 := CP.Same.to s10 (CP.Same.to s89 hp8)
    rw [List.length_take, List.length_map] at al
    refine r_app hp10 (by omega) fun H11 b11 h11 => ?_
    have lp : l ≠ p := fun z => by rw [z, hp8] at l0; cases l0
    have wp : w ≠ p := fun z => by rw [z, CP.Same.to s89 hp8] at w0; cases w0
    have s811 : Same (hide p H8) (hide p H11) := fun b o hb => by
      have bp : b ≠ p := fun z => by rw [z] at hb; unfold hide at hb; rw [if_pos rfl] at hb; cases hb
      rw [hide_ne bp] at hb ⊢
      exact b11 _ _ bp (s10 _ _ (s89 _ _ hb))
    refine ⟨b11 _ _ gp (s10 _ _ (s89 _ _ hg8)), s8.trans s811, ⟨_, h11, ?_⟩, _, _, rfl⟩
    have ek : ((ordP (f.1.map (·.1))).map (termM f))[i]? = some (termM f k) := by rw [List.getElem?_map, hk]; rfl
    rw [take_succ ek]
    refine pd_app (pd_mono pa fun _ _ w => w.mono s811) (.cons ⟨w, l, rfl, ?_, ?_, fun u hu => ?_⟩ .nil)
    · rw [hide_ne wp, tm]
      rw [hG] at hw
      exact b11 _ _ wp hw
    · rw [hide_ne lp]
      exact b11 _ _ lp (s10 _ _ hl9)
    · refine Classical.byContradiction fun no => ?_
      have h7 := E7 _ _ hu fun xs z => no ⟨xs, z⟩
      have h8 := s8 l u (by rw [hide_ne lp]; exact h7)
      rw [hide_ne lp, l0] at h8
      cases h8
  · rintro σ H8 ⟨hg8, s8, ⟨acc, hp8, pa⟩, x2, x3, rfl⟩
    have s78 : Same (hide p H7) H8 := s8.trans hide_same
    repeat walk_at "w"
    refine q p H8 p0 (fun b o hb nt => ?_) ((tabs_hid T7 hp7).ext s78) ⟨acc, hp8, ?_⟩
    · exact s78 _ _ (by rw [hide_ne (fun z => by rw [z, p0] at hb; cases hb)]; exact E7 _ _ hb nt)
    · rw [vl, List.take_of_length_le (by rw [List.length_map]; exact Nat.le_refl _)] at pa
      exact pd_mono pa fun _ _ w => w.mono hide_same

theorem ok_Form_terms (T : Txt K mg) (TB : TabB base mg T.tc T.tP) : FnOk T.z.1 T.z.2 K mg base CX0 10 T.a_Form_terms T.fd_Form_terms ["self"] (sp_Form_terms T) :=
  LamP.okC T.F_Form_terms T.tcode sc_Form_terms (len_Form_terms T) fun A outer s H vs Q E hr h => ⟨t_Form_terms T.z.2 T, (pss_cons (ps_set (i := 1) sc_Form_terms.nd rfl (Or.inl rfl) (pe_lst pa_nil))
      (pss_cons (ps_for PassesOwn.never rfl (pi_list (pe_sortLamZ  (T := [(T.tP, "Form.terms.<locals>.<lambda>")]) (P := T.tP) (k := 4) (p := "one") (tb := tTup (tCons (tCB (rLenA K) (tCons (tVar 4) (tNil))) (tCons (tVar 4) (tNil)))) (by rfl) T.n_sorted (pe_fld (pv 0) rfl) TB rfl (List.mem_singleton.mpr rfl) (fun z hz _ => by rw [List.mem_singleton.mp hz]; rfl) (hr.mono (by decide)) (LamP.lamQ_by (by first | rfl | decide +kernel)) (by rfl) (fun _ _ _ _ _ _ => by rfl) (fun _ _ _ _ _ _ hr => (pe_tup (pa_cons (pe_callB call_lenA (by rfl) T.n_len (by decide +kernel) (pa_cons (pv 4) pa_nil)) (pa_cons (pv 4) pa_nil)))))) (pg_name (i := 2) sc_Form_terms.nd rfl (Or.inl rfl)) (pss_cons (ps_set (i := 3) sc_Form_terms.nd rfl (Or.inl rfl) (pe_call (ok_common T) (hr.mono (by decide)) (by rfl) T.m_common T.F_common.kp (b_common T) .nil pass0 (pa_cons (pe_dsubZ (hu_of hr) (pe_fld (pv 0) rfl) (pv 2) (fun _ _ => rfl)) (pa_cons (pe_fld (pv 0) rfl) pa_nil))))
      (pss_one (ps_expr (pe_bm PySem.F.plainAttrs_list PySem.F.slot_list_append PySem.F.type_list_append mt_append (pv 1) (pa_cons (pe_tup (pa_cons (pe_op op_fdivW (pe_dsubZ (hu_of hr) (pe_fld (pv 0) rfl) (pv 2) (fun _ _ => rfl)) (pv 3)) (pa_cons (pe_op op_fdivW (pe_fld (pv 0) rfl) (pv 3)) (pa_cons (pe_callTy call_listA (by rfl) T.n_list (by decide +kernel) (pa_cons (pv 2) pa_nil)) pa_nil)))) pa_nil))))))
      (pss_one (ps_ret (pv 1))))), rd_Form_terms T vs H Q E h⟩
end
end CP

namespace CP
open PySem L2
section
variable {P : Program} {w : World} {K : PySem.W.Frag} {mg : Str → Option Value} {base : Heap}
def aboveM (v : Str → Int) (rs : List Tm) : Int := (rs.map fun r => r.2 * prodF v r.1).sum
theorem above_succ {v : Str → Int} {rs : List Tm} {i : Nat} {r : Tm} (h : rs[i]? = some r) : aboveM v (rs.take (i + 1)) = aboveM v (rs.take i) + r.2 * prodF v r.1 := by
  unfold aboveM
  rw [take_succ h, List.map_append, List.sum_append]
  simp
def sp_Form_above (T : Txt K mg) : Sp := fun vs H Q _ => match vs with
  | [.ref o, .ref a] => ∃ f kvs v, FormZ T.z T.a_Form H o f ∧ H a = some (.dK kvs) ∧ (∀ r ∈ f.1, ∀ w ∈ r.1, valV kvs (Sum.inr w) = some (.int (v w)) ∧ (v w).natAbs < 2 ^ 400) ∧ (∀ r ∈ f.1, ∀ j, (r.2 * prodF v (r.1.take j)).natAbs < 2 ^ 4000) ∧
      ∀ H', Same H H' → Q (.int (aboveM v f.1)) H'
  | _ => False
@[reducible] def t_Form_above_0 (w : World) (T : Txt K mg) : TS := tAsg (tOp oMul (tVar 4) (tDGet (tVar 1) (tVar 5))) (gName 4)
@[reducible] def t_Form_above_1 (w : World) (T : Txt K mg) : TS := tSeq (tFor (iTup K (tVar 3)) (gName 5) (t_Form_above_0 w T)) (tAsg (tOp oAdd (tVar 2) (tVar 4)) (gName 2))
@[reducible] def t_Form_above_2 (w : World) (T : Txt K mg) : TS := tSeq (tFor (iItemsZ (tFld K (tVar 0) "rows")) (gTup K 2 (gCons (gName 3) (gCons (gName 4) gNil))) (t_Form_above_1 w T)) (tRet (tVar 2))
def t_Form_above (w : World) (T : Txt K mg) : TS := tSeq (tAsg (tC (.int 0)) (gName 2)) (t_Form_above_2 w T)
theorem len_Form_above (T : Txt K mg) : ∀ (vs : List V) (H : Hp) (Q : VK) (E : XK), sp_Form_above T vs H Q E → vs.length = (["self", "values"] : List Str).length := by
  intro vs H Q E h
  unfold sp_Form_above at h
  split at h
  all_goals first | rfl | exact h.elim
theorem rd_Form_above (T : Txt K mg) (vs : List V) (H : Hp) (Q : VK) (E : XK) (h : sp_Form_above T vs H Q E) : t_Form_above w T { nx := fun _ H' => Q .non H', rt := Q } (start ["self", "values", "total", "product", "many", "name"] vs) H := by
  match vs, h with
  | [.ref o, .ref a], h =>
  obtain ⟨f, kvs, v, ⟨dx, d, ho, hd⟩, ha, hv, hb, q⟩ := h
  have sz : sizeLine = 16777216 := rfl
  obtain ⟨od, hd⟩ := hd
  unfold t_Form_above
  walk_at "st"
  repeat walk_at "w"
  refine r_iItemsZ ?_
  repeat walk_at "w"
  refine r_fget ho T.c_Form T.n_Form_rows (by rfl) ?_
  refine ⟨T.z, d, od, _, rfl, hd, for_pz (fun i σ H' => Same H H' ∧ ∃ x3 x4 x5, σ = [some (.ref o), some (.ref a), some (.int (aboveM v (f.1.take i))), x3, x4, x5]) ⟨Same.refl _, _, _, _, rfl⟩ (fun i σ H' _ w => hd.keep (.of w.1)) ?_ ?_⟩
  · rintro i k u t q1 σ H2 H3 hk ⟨s2, x3, x4, x5, rfl⟩ t0 hq s3 ht
    obtain ⟨r, hr, rfl, rfl⟩ := rowsT_get hk
    have hm := List.mem_of_getElem? hr
    rw [keyT_V] at hq
    have hq3 := hq.mono s3
    have ha3 := CP.Same.to (s2.trans s3) ha
    repeat walk_at "w"
    refine ⟨q1, rfl, ⟨_, hq3.sq⟩, for_tup (K := K) (a := q1) (xs := strL r.1) (fun j σ H' => H' = H3 ∧ ∃ x5, σ = [some (.ref o), some (.ref a), some (.int (aboveM v (f.1.take i))), some (.ref q1), some (.int (r.2 * prodF v (r.1.take j))), x5]) ⟨rfl, _, by rw [List.take_zero]; show _ = [_, _, _, _, some (V.int (r.2 * 1)), _]; rw [Int.mul_one]⟩ (fun _ _ _ _ w => by rw [w.1]; exact hq3.sq) ?_ ?_⟩
    · rintro j x σ H4 hx ⟨rfl, y5, rfl⟩
      obtain ⟨w, hw, rfl⟩ := strL_get hx
      obtain ⟨g1, g2⟩ := hv r hm w (List.mem_of_getElem? hw)
      repeat walk_at "w"
      refine r_dgetS ha3 g1 ?_
      refine r_I (wide_mul (hb r hm j) g2 (by decide) (by decide) (by decide)) ?_
      repeat walk_at "w"
      exact ⟨rfl, _, by rw [take_succ hw, prodF_app, ← Int.mul_assoc]⟩
    · rintro σ H4 ⟨rfl, x5, rfl⟩
      rw [strL_len, List.take_length]
      repeat walk_at "w"
      exact ⟨s2.trans s3, _, _, _, by rw [above_succ hr]⟩
  · rintro σ H2 ⟨s2, x3, x4, x5, rfl⟩
    rw [rowsT_len, List.take_length]
    repeat walk_at "w"
    exact q _ s2

theorem ok_Form_above (T : Txt K mg) : FnOk T.z.1 T.z.2 K mg base CX0 1 T.a_Form_above T.fd_Form_above ["self", "values"] (sp_Form_above T) :=
  T.F_Form_above.ok sc_Form_above (len_Form_above T) fun cdv A outer s H vs Q E hr h => ⟨t_Form_above T.z.2 T, (pss_cons (ps_set (i := 2) sc_Form_above.nd rfl (Or.inl rfl) pe_int)
      (pss_cons (ps_for PassesOwn.never rfl (pi_itemsZ (pe_fld (pv 0) rfl)) (pg_tup rfl (pgs_cons (pg_name (i := 3) sc_Form_above.nd rfl (Or.inl rfl)) (pgs_cons (pg_name (i := 4) sc_Form_above.nd rfl (Or.inl rfl)) pgs_nil))) (pss_cons (ps_for PassesOwn.never rfl (pi_tup (pv 3)) (pg_name (i := 5) sc_Form_above.nd rfl (Or.inl rfl)) (pss_one (ps_set (i := 4) sc_Form_above.nd rfl (Or.inl rfl) (pe_op op_mulW (pv 4) (pe_dget (hu_of hr) (pv 1) (pv 5) (fun _ _ => rfl))))))
      (pss_one (ps_set (i := 2) sc_Form_above.nd rfl (Or.inl rfl) (pe_op op_add (pv 2) (pv 4))))))
      (pss_one (ps_ret (pv 2))))), rd_Form_above T vs H Q E h⟩
end
end CP

namespace CP
open PySem L2
section
variable {P : Program} {w : World} {K : PySem.W.Frag} {mg : Str → Option Value} {base : Heap}
/-- the letters of a form, sorted -/
def letsM (f : Fm) : List Str := sset (f.1.flatMap fun r => r.1)
def sp_Form_letters (T : Txt K mg) : Sp := fun vs H Q _ => match vs with
  | [.ref o] => ∃ f, FormZ T.z T.a_Form H o f ∧ FOk f ∧ (letsM f).length < 64 ∧ ∀ p H', H p = none → Same H H' → H' p = some (.lst (strL (letsM f))) → Q (.ref p) H'
  | _ => False
def t_Form_letters (w : World) (T : Txt K mg) : TS := tRet (tCB oSortD (tCons (tDg2 (.dK []) (iKeysZ (tFld K (tVar 0) "rows")) (gName 1) (tYes) (iTup K (tVar 1)) (gName 2) (tYes) (tVar 2) (tC (.bl true)) [1, 2] [2]) (tNil)))
theorem len_Form_letters (T : Txt K mg) : ∀ (vs : List V) (H : Hp) (Q : VK) (E : XK), sp_Form_letters T vs H Q E → vs.length = (["self"] : List Str).length := by
  intro vs H Q E h
  unfold sp_Form_letters at h
  split at h
  all_goals first | rfl | exact h.elim
theorem rd_Form_letters (T : Txt K mg) (vs : List V) (H : Hp) (Q : VK) (E : XK) (h : sp_Form_letters T vs H Q E) : t_Form_letters w T { nx := fun _ H' => Q .non H', rt := Q } (start ["self", "product", "name"] vs) H := by
  match vs, h with
  | [.ref o], h =>
  obtain ⟨f, ⟨dx, d, ho, hd⟩, fo, few, q⟩ := h
  have sz : sizeLine = 16777216 := rfl
  obtain ⟨od, hd⟩ := hd
  unfold t_Form_letters
  walk_at "st"
  repeat walk_at "w"
  refine r_dg2 ?_
  refine r_iKeysZ ?_
  repeat walk_at "w"
  refine r_fget ho T.c_Form T.n_Form_rows (by rfl) ?_
  refine ⟨T.z, d, od, _, rfl, hd, fun D D0 => ⟨fun i m H2 => m = f.1.length - i ∧ i ≤ f.1.length ∧ Same H H2 ∧ H2 D = some (.dK (trueK (namesM (f.1.take i)))), ⟨_, rfl, Nat.zero_le _, same_new D0, upd_same⟩, ?_⟩⟩
  rintro i m H2 ⟨rfl, hi, s2, hD⟩
  have h2 := hd.keep (.of s2)
  rcases Nat.lt_or_ge i f.1.length with lt | ge
  · refine .inr ⟨⟨h2, by rw [rowsT_len]; exact lt⟩, fun H3 => Same H H3 ∧ H3 D = some (.dK (trueK (namesM (f.1.take (i + 1))))), fun H3 z => ⟨f.1.length - (i + 1), by omega, rfl, lt, z⟩, fun x H3 y => ?_⟩
    obtain ⟨rfl, k, v, q1, hk, rfl, hq1⟩ := y
    obtain ⟨r, hr, rfl, rfl⟩ := rowsT_get hk
    rw [keyT_V] at hq1
    have e1 : namesM (f.1.take (i + 1)) = r.1.foldl addN (namesM (f.1.take i)) := by
      unfold namesM
      rw [take_succ hr, List.foldl_append]
      rfl
    obtain ⟨an, _⟩ := names_ok (f.1.take i)
    obtain ⟨_, rl⟩ := fo.lets r (List.mem_of_getElem? hr)
    have al : (namesM (f.1.take i)).length ≤ 1000000 := by
      have := names_len (rs := f.1.take i) fun u hu => (fo.lets u (List.mem_of_mem_take hu)).2
      have := fo.few
      rw [List.length_take] at *
      omega
    repeat walk_at "w"
    refine ⟨rfl, r_yes (if_t ?_)⟩
    repeat walk_at "w"
    refine ⟨q1, rfl, ⟨_, hq1.sq⟩, fun j m2 H4 => m2 = r.1.length - j ∧ j ≤ r.1.length ∧ SB D H3 H4 ∧ H4 D = some (.dK (trueK ((r.1.take j).foldl addN (namesM (f.1.take i))))), ⟨_, rfl, Nat.zero_le _, fun _ _ _ z => z, hD⟩, ?_⟩
    rintro j m2 H4 ⟨rfl, hj, b4, hD4⟩
    have hq4 : TupZ H4 q1 (strL r.1) := let ⟨ob, u1, u2⟩ := hq1; ⟨ob, frzk_dK hD b4 _ _ _ u1, u2⟩
    rcases Nat.lt_or_ge j r.1.length with jl | jg
    · obtain ⟨w, hw⟩ : ∃ w, r.1[j]? = some w := ⟨_, List.getElem?_eq_getElem jl⟩
      have hwL : (strL r.1)[j]? = some (.str w) := by unfold strL; rw [List.getElem?_map, hw]; rfl
      refine .inr ⟨⟨strL r.1, .str w, hq4.sq, hwL⟩, fun H5 => SB D H3 H5 ∧ H5 D = some (.dK (trueK ((r.1.take (j + 1)).foldl addN (namesM (f.1.take i))))), fun H5 z => ⟨r.1.length - (j + 1), by omega, rfl, jl, z⟩, fun x H5 y => ?_⟩
      obtain ⟨rfl, hx⟩ := y
      obtain rfl : x = .str w := Option.some.inj ((hx _ hq4.sq).symm.trans hwL)
      have l5 := adds_len (m := r.1.take j) (l := namesM (f.1.take i))
      have l6 : (r.1.take j).length ≤ 1000 := by rw [List.length_take]; omega
      repeat walk_at "w"
      refine ⟨rfl, r_yes (if_t ?_)⟩
      repeat walk_at "w"
      refine ⟨_, DPut.k (k := Sum.inr w) hD4 (by unfold trueK; rw [List.length_map]; omega), ?_⟩
      rw [trueK_put]
      refine ⟨fun b u nb hb => by rw [upd_ne nb]; exact b4 b u nb hb, ?_⟩
      rw [upd_same, take_succ hw, List.foldl_append]
      rfl
    · obtain rfl : j = r.1.length := by omega
      rw [List.take_length] at hD4
      exact .inl ⟨⟨strL r.1, hq4.sq, by rw [strL_len]; exact Nat.le_refl _⟩, CP.Same.sb s2 D0 b4, by rw [e1]; exact hD4⟩
  · obtain rfl : i = f.1.length := by omega
    rw [List.take_length] at hD
    refine .inl ⟨⟨h2, by rw [rowsT_len]; exact Nat.le_refl _⟩, ?_⟩
    have ln : (namesM f.1).length < 64 := by
      rw [← srt_len, names_srt]
      exact few
    repeat walk_at "w"
    refine ⟨D, trueK (namesM f.1), namesM f.1, rfl, .inl hD, by unfold trueK; rw [List.map_map]; rfl, ln, fun ys p hp so p0 => ?_⟩
    have e : ys = letsM f := (srt_of hp so).trans (names_srt _)
    have s4 := same_new (o := .lst (ys.map V.str)) p0
    exact q p _ (L2.Same.free s2 p0) (s2.trans s4) (by rw [upd_same, e]; rfl)

theorem ok_Form_letters (T : Txt K mg) : FnOk T.z.1 T.z.2 K mg base CX0 1 T.a_Form_letters T.fd_Form_letters ["self"] (sp_Form_letters T) :=
  T.F_Form_letters.ok sc_Form_letters (len_Form_letters T) fun cdv A outer s H vs Q E hr h => ⟨t_Form_letters T.z.2 T, (pss_one (ps_ret (pe_callB (cr_sortD rfl) (by rfl) T.n_sorted (by decide +kernel) (pa_cons (pe_dg2 (o := .dK []) (own := [("product", 1), ("name", 2)]) (vs1 := [2]) (g := (gName 1)) (tt := tYes) (g1 := (gName 2)) (tt1 := tYes) (tk := tVar 2) (tv := tC (.bl true)) .k hr.units0 rfl sc_Form_letters.nd (pi_keysZ (pe_fld (pv 0) rfl)) (blkOk_by (own := [("product", 1), ("name", 2)]) (N := ["self", "product", "name"]) (sc := defScope s_Form_letters) (by decide +kernel)) (by decide) (fun _ _ _ _ _ => (pg_name (i := 1) sc_Form_letters.nd rfl (Or.inl rfl))) (fun _ _ _ _ _ => pts_nil) (fun _ _ _ _ _ => (pi_tup (pv 1))) (fun _ _ _ _ _ => (pg_name (i := 2) sc_Form_letters.nd rfl (Or.inl rfl))) (fun _ _ _ _ _ => pts_nil) (fun _ _ _ _ _ => (pv 2)) (fun _ _ _ _ _ => pe_bl)) pa_nil)))), rd_Form_letters T vs H Q E h⟩
end
end CP

namespace CP
open PySem L2
section
variable {P : Program} {w : World} {K : PySem.W.Frag} {mg : Str → Option Value} {base : Heap}
def sp_is_letter (_ : Txt K mg) : Sp := fun vs H Q _ => match vs with
  | [x] => ∃ n, TK K H x n ∧ ((n ≠ "str" ∧ ∀ H', Same H H' → Q (.bl false) H') ∨ ∃ z, n = "str" ∧ x = .str z ∧ z.length ≤ sizeLine ∧ (PyData.str z).canLay0 = true ∧ ∀ H', Same H H' → Q (.bl (letB z)) H')
  | _ => False
@[reducible] def t_is_letter_0 (w : World) (T : Txt K mg) : TS := tRet (tOp (rEqX K) (tLc (iStr (tVar 0)) (gName 1) (tTest (tOp rNotInS (tVar 1) (tC (c_SMALL)))) (tVar 1) [1]) (tLst (tNil)))
def t_is_letter (w : World) (T : Txt K mg) : TS := tSeq (tIfS (tOr (tNot (tB (tCB (rIsi K) (tCons (tVar 0) (tCons (tC (.ty "str")) (tNil)))))) (tNot (tTest (tChain oLe oLe (tC (.int 1)) (tCB oLenS (tCons (tVar 0) (tNil))) (tC (.int 10)))))) (tRet (tC (.bl false))) (tNext)) (t_is_letter_0 w T)
theorem len_is_letter (T : Txt K mg) : ∀ (vs : List V) (H : Hp) (Q : VK) (E : XK), sp_is_letter T vs H Q E → vs.length = (["value"] : List Str).length := by
  intro vs H Q E h
  unfold sp_is_letter at h
  split at h
  all_goals first | rfl | exact h.elim
theorem rd_is_letter (T : Txt K mg) (vs : List V) (H : Hp) (Q : VK) (E : XK) (h : sp_is_letter T vs H Q E) : t_is_letter w T { nx := fun _ H' => Q .non H', rt := Q } (start ["value", "sign"] vs) H := by
  match vs, h with
  | [x], h =>
  obtain ⟨n, ht, h⟩ := h
  unfold t_is_letter
  walk_at "st"
  repeat walk_at "w"
  have e2 : ("str" == "int") = false := by decide
  rcases h with ⟨hn, q⟩ | ⟨z, rfl, rfl, hz, hy, q⟩
  · have e1 : (n == "str") = false := by rw [beq_eq_false_iff_ne]; exact hn
    rw [e1, e2, Bool.and_false, Bool.or_false]
    repeat walk_at "w"
    exact q _ (Same.refl _)
  · have e1 : ("str" == "str" || "str" == "bool" && "str" == "int") = true := by decide
    rw [e1]
    repeat walk_at "w"
    refine r_lenS hz ?_
    repeat walk_at "w"
    unfold letB at q
    refine if_d (fun k1 => ?_) fun k1 => ?_
    · repeat walk_at "w"
      refine if_nd (fun k2 => ?_) fun k2 => ?_
      · repeat walk_at "w"
        rw [decide_eq_false (by omega)] at q
        exact q _ (Same.refl _)
      · repeat walk_at "w"
        rw [decide_eq_true (by omega), Bool.true_and] at q
        have zs : z.length = z.cps.size := rfl
        intro D hD
        refine lc_tellS (β := V) (fun _ x b => x = b) ((z.cps.toList.map fun c => if decide (c ∈ smallT.cps.toList) = true then none else some (V.str ⟨#[c]⟩))) hD (by simp) (by rw [List.length_map, Array.length_toList]; have : sizeLine = 16777216 := rfl; omega) (fun _ _ _ _ _ z => z) (fun i c o H' hc ho s1 _ N no yes => ?_) fun H1 acc s1 hacc pp => ?_
        · have ho : o = if decide (c ∈ smallT.cps.toList) = true then none else some (V.str ⟨#[c]⟩) := by
            rw [List.getElem?_map, Array.getElem?_toList, hc] at ho
            exact (Option.some.inj ho).symm
          subst ho
          repeat walk_at "w"
          refine ⟨rfl, ?_⟩
          repeat walk_at "w"
          refine if_nd (fun k => ?_) fun k => ?_
          · have k : ¬ c ∈ smallT.cps.toList := k
            rw [if_neg (by rw [decide_eq_false k]; decide)] at yes
            repeat walk_at "w"
            exact yes _ _ _ rfl (Same.refl _) rfl
          · have k : c ∈ smallT.cps.toList := k
            rw [if_pos (by rw [decide_eq_true k])] at no
            exact no _ rfl (Same.refl _)
        · have e := pd_eq pp
          rw [List.filterMap_map] at e
          have e3 : acc = strL ((z.cps.toList.filter fun c => !decide (c ∈ smallT.cps.toList)).map fun c => ⟨#[c]⟩) := by
            rw [e]
            unfold strL
            rw [List.map_map]
            generalize z.cps.toList = l
            induction l with
            | nil => rfl
            | cons c l ih =>
              by_cases k : c ∈ smallT.cps.toList
              · rw [List.filterMap_cons_none (by show (if decide (c ∈ smallT.cps.toList) = true then none else _) = none; rw [if_pos (decide_eq_true k)]), List.filter_cons_of_neg (by rw [decide_eq_true k]; decide)]
                exact ih
              · rw [List.filterMap_cons_some (b := V.str ⟨#[c]⟩) (by show (if decide (c ∈ smallT.cps.toList) = true then none else _) = _; rw [if_neg (by rw [decide_eq_false k]; decide)]), List.filter_cons_of_pos (by rw [decide_eq_false k]; rfl), List.map_cons, ih]
                rfl
          rw [e3] at hacc
          have hlow : ∀ c ∈ z.cps.toList, c < 0x110000 := fun c hc => by
            simp only [PyData.canLay0] at hy
            have hy : z.cps.all (· < 0x110000) = true := hy
            rw [← Array.all_toList, List.all_eq_true] at hy
            exact of_decide_eq_true (hy c hc)
          repeat walk_at "w"
          rename_i L HL L0 sL hL
          have q' := q HL (s1.trans sL)
          refine nil_eqX (.of (CP.Same.to sL hacc)) (.of hL) (strs_dp fun x hx => ?_) ?_
          · obtain ⟨c, hc, rfl⟩ := List.mem_map.mp hx
            have := hlow c (List.mem_filter.mp hc).1
            simp only [PyData.canLay0]
            show (#[c] : Array Nat).all (· < 0x110000) = true
            simp [this]
          · have e4 : (strL ((z.cps.toList.filter fun c => !decide (c ∈ smallT.cps.toList)).map fun c => ⟨#[c]⟩)).isEmpty = z.cps.toList.all fun c => decide (c ∈ smallT.cps.toList) := by
              unfold strL
              rw [Bool.eq_iff_iff, List.isEmpty_iff, List.map_eq_nil_iff, List.map_eq_nil_iff, List.filter_eq_nil_iff, List.all_eq_true]
              refine forall_congr' fun c => forall_congr' fun _ => ?_
              cases decide (c ∈ smallT.cps.toList) <;> simp
            rw [e4]
            exact q'
    · repeat walk_at "w"
      rw [decide_eq_false (by omega)] at q
      exact q _ (Same.refl _)

theorem ok_is_letter (T : Txt K mg) : FnOk T.z.1 T.z.2 K mg base CX0 1 T.a_is_letter T.fd_is_letter ["value"] (sp_is_letter T) :=
  T.F_is_letter.ok sc_is_letter (len_is_letter T) fun cdv A outer s H vs Q E hr h => ⟨t_is_letter T.z.2 T, (pss_cons (ps_if (PW.pt (pw_or (pt_not (pt_val (pe_callB call_isi (by rfl) T.n_isinstance (by decide +kernel) (pa_cons (pv 0) (pa_cons (pe_bltn (v := .ty "str") (by rfl) T.n_str (by decide +kernel) rfl) pa_nil))))) (pw_or1 (pt_not (pt_chain op_le op_le pe_int (pe_callB call_len_str (by rfl) T.n_len (by decide +kernel) (pa_cons (pv 0) pa_nil)) pe_int))))) (pss_one (ps_ret pe_bl)) pss_nil)
      (pss_one (ps_ret (pe_cmpR (op_eqX hr.units) (pe_lc (own := [("sign", 1)]) (g := (gName 1)) (tt := tTest (tOp rNotInS (tVar 1) (tC (c_SMALL)))) (te := tVar 1) rfl sc_is_letter.nd (pi_str (pv 0)) (blkOk_by (own := [("sign", 1)]) (N := ["value", "sign"]) (sc := defScope s_is_letter) (by decide +kernel)) (fun _ _ _ _ _ => (pg_name (i := 1) sc_is_letter.nd rfl (Or.inl rfl))) (fun _ _ _ _ _ => (pts_one (pt_cmpR op_notInS (pv 1) (pe_glob (by rfl) T.m_SMALL.1 T.m_SMALL.2) (by rfl)))) (fun _ _ _ _ _ => (pv 1))) (pe_lst pa_nil) (nomark _))))), rd_is_letter T vs H Q E h⟩
end
end CP

namespace CP
open PySem L2
section
variable {P : Program} {w : World} {K : PySem.W.Frag} {mg : Str → Option Value} {base : Heap}
/-- of a value of a known kind, or of a form -/
def sp_is_whole (T : Txt K mg) : Sp := fun vs H Q _ => match vs with
  | [x] => ∃ n, (TK K H x n ∨ (n = "form" ∧ ∃ o dx fs, x = .ref o ∧ H o = some (.ins T.a_Form dx fs))) ∧ Q (.bl (n == "int")) H
  | _ => False
def t_is_whole (w : World) (T : Txt K mg) : TS := tRet (tAndV (tCB (rIsi K) (tCons (tVar 0) (tCons (tC (.ty "int")) (tNil)))) (tNotV (tCB (rIsi K) (tCons (tVar 0) (tCons (tC (.ty "bool")) (tNil))))))
theorem len_is_whole (T : Txt K mg) : ∀ (vs : List V) (H : Hp) (Q : VK) (E : XK), sp_is_whole T vs H Q E → vs.length = (["value"] : List Str).length := by
  intro vs H Q E h
  unfold sp_is_whole at h
  split at h
  all_goals first | rfl | exact h.elim
theorem rd_is_whole (T : Txt K mg) (vs : List V) (H : Hp) (Q : VK) (E : XK) (h : sp_is_whole T vs H Q E) : t_is_whole w T { nx := fun _ H' => Q .non H', rt := Q } (start ["value"] vs) H := by
  match vs, h with
  | [x], h =>
  obtain ⟨n, ht, q⟩ := h
  unfold t_is_whole
  walk_at "st"
  rcases ht with ht | ⟨rfl, o, dx, fs, rfl, ho⟩
  · repeat walk_at "s"
    refine if_b (fun c => ?_) (fun c => ?_)
    · repeat walk_at "s"
      have e : (!(n == "bool" || n == "bool" && "bool" == "int")) = (n == "int") := by
        cases hb : n == "int" <;> cases hi : n == "bool" <;> simp_all
      rw [e]
      exact q
    · have e : (n == "int") = false := by
        cases hb : n == "int" <;> simp_all
      rw [e] at q
      exact q
  · repeat walk_at "s"
    refine ⟨.ref o, .ty "int", .ref T.a_Form, .type "int", false, rfl, .ty "int", .base (.ins ho T.I_Form.cl T.I_Form.at_ T.I_Form.sp T.I_Form.tk T.I_Form.mro), T.S_Form.noInt, ?_⟩
    exact ⟨false, rfl, q⟩

theorem ok_is_whole (T : Txt K mg) : FnOk T.z.1 T.z.2 K mg base CX0 1 T.a_is_whole T.fd_is_whole ["value"] (sp_is_whole T) :=
  T.F_is_whole.ok sc_is_whole (len_is_whole T) fun cdv A outer s H vs Q E hr h => ⟨t_is_whole T.z.2 T, (pss_one (ps_ret (pe_and (pe_callB call_isi (by rfl) T.n_isinstance (by decide +kernel) (pa_cons (pv 0) (pa_cons (pe_bltn (v := .ty "int") (by rfl) T.n_int (by decide +kernel) rfl) pa_nil))) (pe_one (pe_not (pe_callB call_isi (by rfl) T.n_isinstance (by decide +kernel) (pa_cons (pv 0) (pa_cons (pe_bltn (v := .ty "bool") (by rfl) T.n_bool (by decide +kernel) rfl) pa_nil)))))))), rd_is_whole T vs H Q E h⟩
end
end CP

namespace CP
open PySem L2
section
variable {P : Program} {w : World} {K : PySem.W.Frag} {mg : Str → Option Value} {base : Heap}
def sp_are_values (_ : Txt K mg) : Sp := fun vs H Q _ => match vs with
  | [.ref d] => ∃ kv, H d = some (.dK (dV kv)) ∧ (∀ p ∈ kv, letB p.1 = true) ∧ (kv.map (·.1)).Nodup ∧ kv.length < 2000 ∧ ∀ H', Same H H' → Q (.bl true) H'
  | _ => False
@[reducible] def t_are_values_0 (w : World) (T : Txt K mg) : TS := tRet (tOp (rEqX K) (tLockE (tLc (iKeys (tVar 0)) (gName 1) (tOr (tNot (tB (tCall (sp_is_letter T) [] E0 (tCons (tVar 1) (tNil))))) (tNot (tB (tCall (sp_is_whole T) [] E0 (tCons (tDGet (tVar 0) (tVar 1)) (tNil)))))) (tVar 1) [1])) (tLst (tNil)))
def t_are_values (w : World) (T : Txt K mg) : TS := tSeq (tIfS (tNot (tB (tCB (rIsi K) (tCons (tVar 0) (tCons (tC (.ty "dict")) (tNil)))))) (tRet (tC (.bl false))) (tNext)) (t_are_values_0 w T)
theorem len_are_values (T : Txt K mg) : ∀ (vs : List V) (H : Hp) (Q : VK) (E : XK), sp_are_values T vs H Q E → vs.length = (["value"] : List Str).length := by
  intro vs H Q E h
  unfold sp_are_values at h
  split at h
  all_goals first | rfl | exact h.elim
theorem rd_are_values (T : Txt K mg) (vs : List V) (H : Hp) (Q : VK) (E : XK) (h : sp_are_values T vs H Q E) : t_are_values w T { nx := fun _ H' => Q .non H', rt := Q } (start ["value", "name"] vs) H := by
  match vs, h with
  | [.ref d], h =>
  obtain ⟨kv, hd, hl, nd, hz, q⟩ := h
  have sz : sizeLine = 16777216 := rfl
  unfold t_are_values
  walk_at "st"
  repeat walk_at "w"
  refine r_isi (n := "dict") (tk_dK hd) (by decide) ?_
  rw [show ("dict" == "dict" || ("dict" == "bool" && "dict" == "int")) = true by decide]
  repeat walk_at "w"
  refine r_lockE hd fun od H1 h1 k1 sm => ?_
  repeat walk_at "w"
  refine ⟨d, od, rfl, .inl ⟨_, h1, fun D hD => lc_keysN hD h1 (by unfold dV; rw [List.length_map]; omega) (fun i k v H2 hk s2 N no yes => ?_) fun H2 s2 hacc => ?_⟩⟩
  · obtain ⟨p, hp, rfl, rfl⟩ := dV_get hk
    have lp := hl p hp
    have h2 := CP.Same.to s2 h1
    repeat walk_at "w"
    refine ⟨rfl, ?_⟩
    repeat walk_at "w"
    refine ⟨"str", tk_str, .inr ⟨p.1, rfl, rfl, by have := let_len lp; omega, let_lay lp, fun H3 s3 => ?_⟩⟩
    rw [lp]
    repeat walk_at "w"
    refine r_dgetF (CP.Same.to s3 h2) (by rw [dV_val, getD_mem nd hp]; rfl) ?_
    repeat walk_at "w"
    refine ⟨"int", .inl tk_int, ?_⟩
    repeat walk_at "w"
    exact no _ rfl s3
  have dD : D ≠ d := fun e => by rw [e, h1] at hD; cases hD
  refine ⟨CP.Same.to s2 h1, ?_⟩
  have S := sm H2 s2
  have hacc : (upd H2 d (.dK (dV kv))) D = some (.lst []) := by rw [upd_ne dD]; exact hacc
  generalize upd H2 d (.dK (dV kv)) = H3 at *
  repeat walk_at "w"
  rename_i M H4 M0 s4 hM
  refine nil_eqX0 (.of (CP.Same.to s4 hacc)) (.of hM) ?_
  repeat walk_at "w"
  exact q _ (S.trans s4)

theorem ok_are_values (T : Txt K mg) : FnOk T.z.1 T.z.2 K mg base CX0 2 T.a_are_values T.fd_are_values ["value"] (sp_are_values T) :=
  T.F_are_values.ok sc_are_values (len_are_values T) fun cdv A outer s H vs Q E hr h => ⟨t_are_values T.z.2 T, (pss_cons (ps_if (pt_not (pt_val (pe_callB call_isi (by rfl) T.n_isinstance (by decide +kernel) (pa_cons (pv 0) (pa_cons (pe_bltn (v := .ty "dict") (by rfl) T.n_dict (by decide +kernel) rfl) pa_nil))))) (pss_one (ps_ret pe_bl)) pss_nil)
      (pss_one (ps_ret (pe_cmpR (op_eqX hr.units) (pe_lock (pe_lc (own := [("name", 1)]) (g := (gName 1)) (tt := tOr (tNot (tB (tCall (sp_is_letter T) [] E0 (tCons (tVar 1) (tNil))))) (tNot (tB (tCall (sp_is_whole T) [] E0 (tCons (tDGet (tVar 0) (tVar 1)) (tNil)))))) (te := tVar 1) rfl sc_are_values.nd (pi_keys (pv 0)) (blkOk_by (own := [("name", 1)]) (N := ["value", "name"]) (sc := defScope s_are_values) (by decide +kernel)) (fun _ _ _ _ _ => (pg_name (i := 1) sc_are_values.nd rfl (Or.inl rfl))) (fun _ _ _ _ _ => (pts_one (PW.pt (pw_or (pt_not (pt_val (pe_call (ok_is_letter T) (hr.mono (by decide)) (by rfl) T.m_is_letter T.F_is_letter.kp (b_is_letter T) .nil pass0 (pa_cons (pv 1) pa_nil)))) (pw_or1 (pt_not (pt_val (pe_call (ok_is_whole T) (hr.mono (by decide)) (by rfl) T.m_is_whole T.F_is_whole.kp (b_is_whole T) .nil pass0 (pa_cons (pe_dget (hu_of hr) (pv 0) (pv 1) (fun _ _ => rfl)) pa_nil))))))))) (fun _ _ _ _ _ => (pv 1)))) (pe_lst pa_nil) (nomark _))))), rd_are_values T vs H Q E h⟩
end
end CP

namespace CP
open PySem L2
section
variable {P : Program} {w : World} {K : PySem.W.Frag} {mg : Str → Option Value} {base : Heap}
def atF (v : Str → Int) (f : Fm) : V := if aboveM v f.1 % f.2 = 0 then .int (aboveM v f.1 / f.2) else .non
def sp_Form_at (T : Txt K mg) : Sp := fun vs H Q _ => match vs with
  | [.ref o, .ref a] => ∃ f kv, FormZ T.z T.a_Form H o f ∧ FOk f ∧ (letsM f).length < 64 ∧ H a = some (.dK (dV kv)) ∧ (∀ p ∈ kv, letB p.1 = true) ∧ (kv.map (·.1)).Nodup ∧ kv.length < 2000 ∧
      (∀ r ∈ f.1, ∀ w ∈ r.1, (getD kv w).isSome = true ∧ (atD kv w).natAbs < 2 ^ 400) ∧ (∀ r ∈ f.1, ∀ j, (r.2 * prodF (atD kv) (r.1.take j)).natAbs < 2 ^ 4000) ∧ ∀ H', Same H H' → Q (atF (atD kv) f) H'
  | _ => False
@[reducible] def t_Form_at_0 (w : World) (T : Txt K mg) : TS := tRet (tIf (tTest (tOp rEq (tOp oMod (tVar 3) (tFld K (tVar 0) "under")) (tC (.int 0)))) (tOp oDiv (tVar 3) (tFld K (tVar 0) "under")) (tC .non))
@[reducible] def t_Form_at_1 (w : World) (T : Txt K mg) : TS := tSeq (tAsg (tMeth T.a_Form "above" (sp_Form_above T) [] E0 (tVar 0) (tCons (tVar 1) (tNil))) (gName 3)) (t_Form_at_0 w T)
def t_Form_at (w : World) (T : Txt K mg) : TS := tSeq (tIfS (tOr (tNot (tB (tCall (sp_are_values T) [] E0 (tCons (tVar 1) (tNil))))) (tTest (tOp (rNeX K) (tLc (iList K (tMeth T.a_Form "letters" (sp_Form_letters T) [] E0 (tVar 0) tNil)) (gName 2) (tB (tDNotIn (tVar 2) (tVar 1))) (tVar 2) [2]) (tLst (tNil))))) (tNever) (tNext)) (t_Form_at_1 w T)
theorem len_Form_at (T : Txt K mg) : ∀ (vs : List V) (H : Hp) (Q : VK) (E : XK), sp_Form_at T vs H Q E → vs.length = (["self", "values"] : List Str).length := by
  intro vs H Q E h
  unfold sp_Form_at at h
  split at h
  all_goals first | rfl | exact h.elim
theorem rd_Form_at (T : Txt K mg) (vs : List V) (H : Hp) (Q : VK) (E : XK) (h : sp_Form_at T vs H Q E) : t_Form_at w T { nx := fun _ H' => Q .non H', rt := Q } (start ["self", "values", "name", "total"] vs) H := by
  match vs, h with
  | [.ref o, .ref a], h =>
  obtain ⟨f, kv, hf, fo, few, ha, hl, nd, kl, hv, hb, q⟩ := h
  have sz : sizeLine = 16777216 := rfl
  obtain ⟨dx, d, ho, hd⟩ := id hf
  unfold t_Form_at
  walk_at "st"
  repeat walk_at "w"
  refine ⟨kv, ha, hl, nd, kl, fun H1 s1 => ?_⟩
  repeat walk_at "w"
  refine ⟨o, dx, _, rfl, CP.Same.to s1 ho, by rfl, ?_⟩
  repeat walk_at "w"
  refine ⟨f, hf.mono s1, fo, few, fun p H2 p0 s2 hp => ?_⟩
  have S2 := s1.trans s2
  have ha2 := CP.Same.to S2 ha
  refine ⟨p, rfl, ⟨_, .of hp⟩, fun D D0 => lc_noneL D0 (.of hp) (by rw [strL_len]; omega) (fun k z H3 hz s3 N no yes => ?_) fun H3 s3 hD => ?_⟩
  · obtain ⟨w, hw, rfl⟩ := strL_get hz
    obtain ⟨r, hr, hwr⟩ := List.mem_flatMap.mp (mem_sset.mp (by have := List.mem_of_getElem? hw; exact this))
    obtain ⟨g1, g2⟩ := hv r hr w hwr
    have ha3 := CP.Same.to s3 ha2
    repeat walk_at "w"
    refine ⟨rfl, ?_⟩
    repeat walk_at "w"
    obtain ⟨n, gn⟩ := Option.isSome_iff_exists.mp g1
    rw [dV_val, gn]
    refine if_nf ?_
    exact no _ rfl (Same.refl _)
  repeat walk_at "w"
  rename_i M H4 M0 s4 hM
  refine nil_neX0 (.of (CP.Same.to s4 hD)) (.of hM) ?_
  repeat walk_at "w"
  have S4 := S2.trans (s3.trans s4)
  refine ⟨o, dx, _, rfl, CP.Same.to S4 ho, by rfl, ?_⟩
  repeat walk_at "w"
  refine ⟨f, dV kv, atD kv, hf.mono S4, CP.Same.to S4 ha, fun r hr w hw => ?_, hb, fun H5 s5 => ?_⟩
  · obtain ⟨g1, g2⟩ := hv r hr w hw
    refine ⟨?_, g2⟩
    rw [dV_val]
    unfold atD
    obtain ⟨n, hn⟩ := Option.isSome_iff_exists.mp g1
    rw [hn]
    rfl
  have S5 := S4.trans s5
  have ho5 := CP.Same.to S5 ho
  have fp := fo.pos
  repeat walk_at "w"
  refine r_fget ho5 T.c_Form T.n_Form_under (by rfl) ?_
  have fin := q H5 S5
  unfold atF at fin
  generalize aboveM (atD kv) f.1 = tot at fin ⊢
  refine r_I fp.1 ?_
  repeat walk_at "w"
  refine if_d (fun k => ?_) fun k => ?_
  · rw [if_pos k] at fin
    repeat walk_at "w"
    refine r_fget ho5 T.c_Form T.n_Form_under (by rfl) ?_
    repeat walk_at "w"
    exact fin
  · rw [if_neg k] at fin
    repeat walk_at "w"
    exact fin

theorem ok_Form_at (T : Txt K mg) : FnOk T.z.1 T.z.2 K mg base CX0 3 T.a_Form_at T.fd_Form_at ["self", "values"] (sp_Form_at T) :=
  T.F_Form_at.ok sc_Form_at (len_Form_at T) fun cdv A outer s H vs Q E hr h => ⟨t_Form_at T.z.2 T, (pss_cons (ps_if (PW.pt (pw_or (pt_not (pt_val (pe_call (ok_are_values T) (hr.mono (by decide)) (by rfl) T.m_are_values T.F_are_values.kp (b_are_values T) .nil pass0 (pa_cons (pv 1) pa_nil)))) (pw_or1 (pt_cmpR (op_neX hr.units) (pe_lc (own := [("name", 2)]) (g := (gName 2)) (tt := tB (tDNotIn (tVar 2) (tVar 1))) (te := tVar 2) rfl sc_Form_at.nd (pi_list (pe_meth0 (pv 0) T.c_Form T.M_Form_letters (ok_Form_letters T) (hr.mono (by decide)) (b_Form_letters T) .nil pass0)) (blkOk_by (own := [("name", 2)]) (N := ["self", "values", "name", "total"]) (sc := defScope s_Form_at) (by decide +kernel)) (fun _ _ _ _ _ => (pg_name (i := 2) sc_Form_at.nd rfl (Or.inl rfl))) (fun _ _ _ _ _ => (pts_one (pt_cmp (pc_dnotin (hu_of hr) (pv 2) (pv 1))))) (fun _ _ _ _ _ => (pv 2))) (pe_lst pa_nil) (nomark _))))) (pss_one ps_never) pss_nil)
      (pss_cons (ps_set (i := 3) sc_Form_at.nd rfl (Or.inl rfl) (pe_meth (pv 0) T.c_Form T.M_Form_above (ok_Form_above T) (hr.mono (by decide)) (b_Form_above T) .nil pass0 (pa_cons (pv 1) pa_nil)))
      (pss_one (ps_ret (pe_ifExp (pt_cmpR op_eq (pe_op op_mod (pv 3) (pe_fld (pv 0) rfl)) pe_int (nomark _)) (pe_op op_fdivW (pv 3) (pe_fld (pv 0) rfl)) pe_non))))), rd_Form_at T vs H Q E h⟩
end
end CP

namespace CP
open PySem L2
section
/-! terms: what they add up to, in which order they stand -/
def tmStep (v : Str → Int) (s : Int × Int) (t : Int × Int × List Str) : Int × Int := (s.1 * t.2.1 + t.1 * prodF v t.2.2 * s.2, s.2 * t.2.1)
theorem term_is {f : Fm} (fo : FOk f) (p : List Str) : (termM f p).1 * (f.2 : Int) = getT f.1 p * (termM f p).2.1 ∧ 1 ≤ (termM f p).2.1 ∧ (termM f p).2.1 ≤ f.2 ∧ (termM f p).1.natAbs ≤ (getT f.1 p).natAbs ∧ Int.gcd (termM f p).1 (termM f p).2.1 = 1 := by
  have fp := fo.pos.1
  unfold termM
  dsimp only
  have gp : 0 < Int.gcd (getT f.1 p) f.2 := by
    refine Nat.pos_of_ne_zero fun z => ?_
    have := (Int.gcd_eq_zero_iff.mp z).2
    omega
  obtain ⟨a, ea⟩ := Int.gcd_dvd_left (a := getT f.1 p) (b := (f.2 : Int))
  obtain ⟨b, eb⟩ := Int.gcd_dvd_right (a := getT f.1 p) (b := (f.2 : Int))
  generalize hg : Int.gcd (getT f.1 p) (f.2 : Int) = g at *
  have gz : (g : Int) ≠ 0 := by omega
  have e1 : getT f.1 p / (g : Int) = a := by rw [ea, Int.mul_ediv_cancel_left _ gz]
  have e2 : (f.2 : Int) / (g : Int) = b := by rw [eb, Int.mul_ediv_cancel_left _ gz]
  have g1 : Int.gcd a b = 1 := by
    have h2 := hg
    rw [ea, eb, Int.gcd_mul_left] at h2
    have h3 : g * Int.gcd a b = g * 1 := by rw [Nat.mul_one]; exact h2
    exact Nat.eq_of_mul_eq_mul_left gp h3
  rw [e1, e2]
  have bp : 0 < b := by
    rcases Int.lt_or_le 0 b with h | h
    · exact h
    · have := Int.mul_nonpos_of_nonneg_of_nonpos (show (0 : Int) ≤ g by omega) h
      omega
  refine ⟨?_, bp, ?_, ?_, g1⟩
  · rw [ea, eb]
    grind
  · have := Int.mul_le_mul_of_nonneg_right (show (1 : Int) ≤ g by omega) (show (0 : Int) ≤ b by omega)
    omega
  · rw [ea, Int.natAbs_mul]
    have : 1 * a.natAbs ≤ (g : Int).natAbs * a.natAbs := Nat.mul_le_mul_right _ (by omega)
    omega
theorem tm_fold {f : Fm} (fo : FOk f) (v : Str → Int) : ∀ (ps : List (List Str)) (A U S : Int), A * f.2 = S * U → 0 < U → ((ps.map (termM f)).foldl (tmStep v) (A, U)).1 * f.2 = (S + (ps.map fun p => getT f.1 p * prodF v p).sum) * ((ps.map (termM f)).foldl (tmStep v) (A, U)).2 ∧ 0 < ((ps.map (termM f)).foldl (tmStep v) (A, U)).2
  | [], A, U, S, h, u => by simpa using ⟨h, u⟩
  | p :: ps, A, U, S, h, u => by
    obtain ⟨e, b1, _⟩ := term_is fo p
    have e3 : (termM f p).2.2 = p := rfl
    have ih := tm_fold fo v ps (A * (termM f p).2.1 + (termM f p).1 * prodF v p * U) (U * (termM f p).2.1) (S + getT f.1 p * prodF v p) (by grind) (Int.mul_pos u (by omega))
    rw [List.map_cons, List.foldl_cons, List.map_cons, List.sum_cons, ← Int.add_assoc]
    exact ih
theorem tm_whole {A B U D : Int} (h : A * D = B * U) (u : 0 < U) (d : 0 < D) : (if A.fmod U = 0 then V.int (A / U) else V.non) = if B % D = 0 then V.int (B / D) else V.non := by
  rw [Int.fmod_eq_emod_of_nonneg _ (by omega)]
  by_cases z : B % D = 0
  · obtain ⟨k, rfl⟩ := Int.dvd_of_emod_eq_zero z
    have : A = U * k := by
      refine Int.eq_of_mul_eq_mul_right (a := D) (by omega) ?_
      grind
    rw [this, Int.mul_emod_right, if_pos rfl, if_pos z, Int.mul_ediv_cancel_left _ (by omega), Int.mul_ediv_cancel_left _ (by omega)]
  · rw [if_neg z, if_neg]
    intro q
    obtain ⟨k, rfl⟩ := Int.dvd_of_emod_eq_zero q
    refine z ?_
    have : B = D * k := by
      refine Int.eq_of_mul_eq_mul_right (a := U) (by omega) ?_
      grind
    rw [this, Int.mul_emod_right]
theorem sum_perm2 {l m : List Int} (h : l.Perm m) : l.sum = m.sum := by
  induction h with
  | nil => rfl
  | cons a _ ih => rw [List.sum_cons, List.sum_cons, ih]
  | swap a b l => rw [List.sum_cons, List.sum_cons, List.sum_cons, List.sum_cons]; omega
  | trans _ _ a b => exact a.trans b
theorem terms_worth {f : Fm} (fo : FOk f) (v : Str → Int) : (if ((termsM f).foldl (tmStep v) (0, 1)).1.fmod ((termsM f).foldl (tmStep v) (0, 1)).2 = 0 then V.int (((termsM f).foldl (tmStep v) (0, 1)).1 / ((termsM f).foldl (tmStep v) (0, 1)).2) else V.non) = atF v f := by
  obtain ⟨e, u⟩ := tm_fold fo v (ordP (f.1.map (·.1))) 0 1 0 (by omega) (by decide)
  have pm := (ordP_perm (f.1.map (·.1))).map fun p => getT f.1 p * prodF v p
  rw [sum_perm2 pm, List.map_map, Int.zero_add] at e
  have s : (f.1.map ((fun p => getT f.1 p * prodF v p) ∘ (·.1))).sum = aboveM v f.1 := by
    unfold aboveM
    refine congrArg List.sum (List.map_congr_left fun r hr => ?_)
    show getT f.1 r.1 * prodF v r.1 = _
    rw [getT_mem fo.nd hr]
  rw [s] at e
  exact tm_whole e u fo.pos.1
theorem tm_under {f : Fm} (fo : FOk f) (v : Str → Int) : ∀ (ps : List (List Str)) (A U : Int), 0 < U → ((ps.map (termM f)).foldl (tmStep v) (A, U)).2 ≤ U * f.2 ^ ps.length
  | [], A, U, u => by simp
  | p :: ps, A, U, u => by
    obtain ⟨e, b1, b2, _⟩ := term_is fo p
    have ih := tm_under fo v ps (A * (termM f p).2.1 + (termM f p).1 * prodF v p * U) (U * (termM f p).2.1) (Int.mul_pos u (by omega))
    rw [List.map_cons, List.foldl_cons]
    refine Int.le_trans ih ?_
    rw [List.length_cons, Int.pow_succ, Int.mul_assoc]
    have h1 : U * ((termM f p).2.1 * f.2 ^ ps.length) ≤ U * (f.2 * f.2 ^ ps.length) := Int.mul_le_mul_of_nonneg_left (Int.mul_le_mul_of_nonneg_right b2 (Int.le_of_lt (Int.pow_pos fo.pos.1))) (by omega)
    rw [Int.mul_comm (f.2 ^ ps.length) f.2]
    exact h1
theorem sum_abs2 {B : Nat} : ∀ {l : List Int}, (∀ x ∈ l, x.natAbs ≤ B) → l.sum.natAbs ≤ l.length * B
  | [], _ => by simp
  | x :: l, h => by
    have i := sum_abs2 fun y hy => h y (List.mem_cons_of_mem _ hy)
    have := h x (List.mem_cons_self ..)
    rw [List.sum_cons, List.length_cons, Nat.add_mul, Nat.one_mul]
    omega
theorem pow_leI {a : Int} (h : 1 ≤ a) {m n : Nat} (l : m ≤ n) : a ^ m ≤ a ^ n := by
  obtain ⟨k, rfl⟩ := Int.eq_ofNat_of_zero_le (show 0 ≤ a by omega)
  rw [← Int.natCast_pow, ← Int.natCast_pow]
  exact Int.ofNat_le.mpr (Nat.pow_le_pow_right (by omega) l)
/-- how great what is added up may be -/
theorem tm_size {f : Fm} (fo : FOk f) {v : Str → Int} (hp : ∀ r ∈ f.1, (r.2 * prodF v r.1).natAbs < 2 ^ 4000) (den : f.2 ^ f.1.length < 2 ^ 7000) (i : Nat) : (((termsM f).take i).foldl (tmStep v) (0, 1)).1.natAbs < 2 ^ 11100 ∧ 0 < (((termsM f).take i).foldl (tmStep v) (0, 1)).2 ∧ (((termsM f).take i).foldl (tmStep v) (0, 1)).2 < 2 ^ 7000 := by
  have e : (termsM f).take i = ((ordP (f.1.map (·.1))).take i).map (termM f) := by unfold termsM; rw [List.map_take]
  rw [e]
  have pm := ordP_perm (f.1.map (·.1))
  obtain ⟨h1, h2⟩ := tm_fold fo v ((ordP (f.1.map (·.1))).take i) 0 1 0 (by omega) (by decide)
  have h3 := tm_under fo v ((ordP (f.1.map (·.1))).take i) 0 1 (by decide)
  have len : ((ordP (f.1.map (·.1))).take i).length ≤ f.1.length := by
    rw [List.length_take, pm.length_eq, List.length_map]
    exact Nat.min_le_right _ _
  have sa := sum_abs2 (B := 2 ^ 4000) (l := ((ordP (f.1.map (·.1))).take i).map fun p => getT f.1 p * prodF v p) fun x hx => by
    obtain ⟨p, hp2, rfl⟩ := List.mem_map.mp hx
    obtain ⟨r, hr, er⟩ := List.mem_map.mp (pm.mem_iff.mp (List.mem_of_mem_take hp2))
    rw [← er, getT_mem fo.nd hr]
    exact Nat.le_of_lt (hp r hr)
  rw [List.length_map] at sa
  generalize (((ordP (f.1.map (·.1))).take i).map fun p => getT f.1 p * prodF v p).sum = S at *
  generalize hF : (((ordP (f.1.map (·.1))).take i).map (termM f)).foldl (tmStep v) (0, 1) = st at *
  have few := fo.few
  have fp := fo.pos.1
  have pw : f.2 ^ ((ordP (f.1.map (·.1))).take i).length ≤ f.2 ^ f.1.length := pow_leI (by omega) len
  generalize f.2 ^ ((ordP (f.1.map (·.1))).take i).length = P1 at *
  generalize f.2 ^ f.1.length = P2 at *
  have u5 : st.2 < 2 ^ 7000 := by
    rw [Int.one_mul] at h3
    exact Int.lt_of_le_of_lt (Int.le_trans h3 pw) den
  refine ⟨?_, h2, u5⟩
  rw [Int.zero_add] at h1
  have n1 := congrArg Int.natAbs h1
  rw [Int.natAbs_mul, Int.natAbs_mul] at n1
  have u6 : st.2.natAbs ≤ 2 ^ 7000 := by
    have e1 : ((2 ^ 7000 : Nat) : Int) = 2 ^ 7000 := Int.natCast_pow 2 7000
    rw [← e1] at u5
    omega
  have b1 : S.natAbs ≤ 2 ^ 10 * 2 ^ 4000 := Nat.le_trans sa (Nat.mul_le_mul_right _ (Nat.le_trans len (Nat.le_trans few (by decide))))
  have b2 := Nat.mul_le_mul b1 u6
  rw [← n1, ← Nat.pow_add, ← Nat.pow_add] at b2
  have b3 : st.1.natAbs * 1 ≤ st.1.natAbs * f.2.natAbs := Nat.mul_le_mul_left _ (by omega)
  rw [Nat.mul_one] at b3
  exact Nat.lt_of_le_of_lt (Nat.le_trans b3 b2) (Nat.pow_lt_pow_right (by decide) (by decide))
/-! ### the order -/
def encL (p : List Str) : PyData := .tuple [.int p.length, .list (p.map .str)]
theorem toks_encL (p : List Str) : PySem.W.keyToks (encL p) = PySem.W.keyToks (encP p) := by
  unfold encL encP
  simp [PySem.W.keyToks, PySem.W.keyToksAll]
theorem encL_sorted (l : List (List Str)) : ((ordP l).map encL).mergeSort (PySem.W.dataLe false fun d => d) = (ordP l).map encL := by
  refine List.mergeSort_of_pairwise ?_
  rw [List.pairwise_map]
  refine (ordP_pw l).imp fun {p q} h => ?_
  rw [← leP_is] at h
  have : PySem.W.dataLe false (fun d => d) (encL p) (encL q) = leP p q := by
    show (!PySem.W.dataLt (encL q) (encL p)) = (!PySem.W.dataLt (encP q) (encP p))
    unfold PySem.W.dataLt
    rw [toks_encL, toks_encL]
  rw [this]
  exact h
theorem sqT_same {K : PySem.W.Frag} {H H' : Hp} {a : Addr} {xs : List V} (e : Same H H') (h : SqT K H a xs) : SqT K H' a xs := by
  rcases h with (h | ⟨o, h⟩) | h
  · exact .inl (.inl (e _ _ h))
  · exact .inl (.inr ⟨o, e _ _ h⟩)
  · exact .inr h
mutual
theorem dp_same {K : PySem.W.Frag} {H H' : Hp} (s : Same H H') : ∀ (d : PyData) (v : V), Dp K H v d → Dp K H' v d
  | .none, _, h => by cases h; exact .non
  | .bool b, _, h => by cases h; exact .bl b
  | .int i, _, h => by cases h; exact .int i
  | .str z, _, h => by cases h; exact .str z
  | .list ds, _, h => by
    cases h with
    | lst h1 h2 => exact .lst (L2.Same.seq s h1) (dpA_same s ds _ h2)
  | .tuple ds, _, h => by
    cases h with
    | tup h1 h2 => exact .tup (sqT_same s h1) (dpA_same s ds _ h2)
  | .dict _, _, h => by cases h
theorem dpA_same {K : PySem.W.Frag} {H H' : Hp} (s : Same H H') : ∀ (ds : List PyData) (vs : List V), DpAll K H vs ds → DpAll K H' vs ds
  | [], _, h => by cases h; exact .nil
  | d :: ds, _, h => by
    cases h with
    | cons h1 h2 => exact .cons (dp_same s d _ h1) (dpA_same s ds _ h2)
end

end
end CP

namespace CP
open PySem L2
section
variable {P : Program} {w : World} {K : PySem.W.Frag} {mg : Str → Option Value} {base : Heap}
def sp_check_form (T : Txt K mg) : Sp := fun vs H Q _ => match vs with
  | [.ref o] => ∃ dx fs, H o = some (.ins T.a_Form dx fs) ∧ Q .non H
  | _ => False
def t_check_form (w : World) (T : Txt K mg) : TS := tIfS (tNot (tB (tCB (rIsi K) (tCons (tVar 0) (tCons (tC (.ref T.a_Form)) (tNil)))))) (tNever) (tNext)
theorem len_check_form (T : Txt K mg) : ∀ (vs : List V) (H : Hp) (Q : VK) (E : XK), sp_check_form T vs H Q E → vs.length = (["form"] : List Str).length := by
  intro vs H Q E h
  unfold sp_check_form at h
  split at h
  all_goals first | rfl | exact h.elim
theorem rd_check_form (T : Txt K mg) (vs : List V) (H : Hp) (Q : VK) (E : XK) (h : sp_check_form T vs H Q E) : t_check_form w T { nx := fun _ H' => Q .non H', rt := Q } (start ["form"] vs) H := by
  match vs, h with
  | [.ref o], h =>
  obtain ⟨dx, fs, ho, q⟩ := h
  unfold t_check_form
  walk_at "st"
  repeat walk_at "w"
  refine r_isiC ho T.I_Form ?_
  repeat walk_at "w"
  exact q

theorem ok_check_form (T : Txt K mg) : FnOk T.z.1 T.z.2 K mg base CX0 1 T.a_check_form T.fd_check_form ["form"] (sp_check_form T) :=
  T.F_check_form.ok sc_check_form (len_check_form T) fun cdv A outer s H vs Q E hr h => ⟨t_check_form T.z.2 T, (pss_one (ps_if (pt_not (pt_val (pe_callB call_isi (by rfl) T.n_isinstance (by decide +kernel) (pa_cons (pv 0) (pa_cons (pe_glob (v := .ref T.a_Form) (by rfl) T.m_Form rfl) pa_nil))))) (pss_one ps_never) pss_nil)), rd_check_form T vs H Q E h⟩
end
end CP

namespace CP
open PySem L2
section
variable {P : Program} {w : World} {K : PySem.W.Frag} {mg : Str → Option Value} {base : Heap}
/-- what stands for a form: a form, or a whole number -/
def OpZ (z : Pw) (C : Addr) (H : Hp) (v : V) (g : Fm) : Prop := (∃ u, v = .ref u ∧ FormZ z C H u g) ∨ ∃ n, v = .int n ∧ g = madeM [([], n)] 1
theorem OpZ.mono {z : Pw} {C : Addr} {H H' : Hp} {v : V} {g : Fm} (h : OpZ z C H v g) (s : Same H H') : OpZ z C H' v g := h.elim (fun ⟨u, e, f⟩ => .inl ⟨u, e, f.mono s⟩) .inr
def sp_as_form (T : Txt K mg) : Sp := fun vs H Q _ => match vs with
  | [v] => ∃ g, OpZ T.z T.a_Form H v g ∧ ∀ u H', Same H H' → FormZ T.z T.a_Form H' u g → Q (.ref u) H'
  | _ => False
@[reducible] def t_as_form_0 (w : World) (T : Txt K mg) : TS := tRet (tCall (sp_made T) [] E0 (tCons (tDispZ T.z (tTupZ (tNil)) (tVar 0)) (tCons (tC (.int 1)) (tNil))))
@[reducible] def t_as_form_1 (w : World) (T : Txt K mg) : TS := tSeq (tDrop (tCall (sp_check_form T) [] E0 (tCons (tVar 0) (tNil)))) (tRet (tVar 0))
def t_as_form (w : World) (T : Txt K mg) : TS := tSeq (tIfS (tB (tCall (sp_is_whole T) [] E0 (tCons (tVar 0) (tNil)))) (t_as_form_0 w T) (tNext)) (t_as_form_1 w T)
theorem len_as_form (T : Txt K mg) : ∀ (vs : List V) (H : Hp) (Q : VK) (E : XK), sp_as_form T vs H Q E → vs.length = (["value"] : List Str).length := by
  intro vs H Q E h
  unfold sp_as_form at h
  split at h
  all_goals first | rfl | exact h.elim
theorem rd_as_form (T : Txt K mg) (vs : List V) (H : Hp) (Q : VK) (E : XK) (h : sp_as_form T vs H Q E) : t_as_form w T { nx := fun _ H' => Q .non H', rt := Q } (start ["value"] vs) H := by
  match vs, h with
  | [v], h =>
  obtain ⟨g, h, q⟩ := h
  rcases h with ⟨o, rfl, hf⟩ | ⟨n, rfl, rfl⟩
  · obtain ⟨dx, d, ho, hd⟩ := id hf
    unfold t_as_form
    walk_at "st"
    repeat walk_at "w"
    refine ⟨"form", .inr ⟨rfl, o, dx, _, rfl, ho⟩, ?_⟩
    rw [show ("form" == "int") = false by decide]
    repeat walk_at "w"
    refine ⟨dx, _, ho, ?_⟩
    repeat walk_at "w"
    exact q o H (Same.refl _) hf
  · unfold t_as_form
    walk_at "st"
    repeat walk_at "w"
    refine ⟨"int", .inl tk_int, ?_⟩
    rw [show ("int" == "int") = true by decide]
    repeat walk_at "w"
    refine r_dispZ fun d H2 d0 s2 hd => ?_
    refine r_tupZ ?_
    repeat walk_at "w"
    refine ⟨Nat.zero_le _, fun t H3 t0 s3 ht => ?_⟩
    repeat walk_at "w"
    refine ⟨CP.Same.to s3 hd, keyT [], t, rfl, ht, fun H4 sb hd4 => ?_⟩
    have S4 : Same H H4 := CP.Same.sb (s2.trans s3) d0 sb
    repeat walk_at "w"
    exact ⟨[([], n)], hd4, by simp, by decide, by decide, fun o H5 o0 s5 hf => q o H5 (S4.trans s5) hf⟩

theorem ok_as_form (T : Txt K mg) : FnOk T.z.1 T.z.2 K mg base CX0 4 T.a_as_form T.fd_as_form ["value"] (sp_as_form T) :=
  T.F_as_form.ok sc_as_form (len_as_form T) fun cdv A outer s H vs Q E hr h => ⟨t_as_form T.z.2 T, (pss_cons (ps_if (pt_val (pe_call (ok_is_whole T) (hr.mono (by decide)) (by rfl) T.m_is_whole T.F_is_whole.kp (b_is_whole T) .nil pass0 (pa_cons (pv 0) pa_nil))) (pss_one (ps_ret (pe_call (ok_made T) (hr.mono (by decide)) (by rfl) T.m_made T.F_made.kp (b_made T) .nil pass0 (pa_cons (pe_dispZ hr.units0 (pe_tupZ pa_nil) (pv 0)) (pa_cons pe_int pa_nil))))) pss_nil)
      (pss_cons (ps_expr (pe_call (ok_check_form T) (hr.mono (by decide)) (by rfl) T.m_check_form T.F_check_form.kp (b_check_form T) .nil pass0 (pa_cons (pv 0) pa_nil)))
      (pss_one (ps_ret (pv 0))))), rd_as_form T vs H Q E h⟩
end
end CP

namespace CP
open PySem L2
section
variable {P : Program} {w : World} {K : PySem.W.Frag} {mg : Str → Option Value} {base : Heap}
def sp_Form___add (T : Txt K mg) : Sp := fun vs H Q _ => match vs with
  | [.ref o, v] => ∃ f g, FormZ T.z T.a_Form H o f ∧ OpZ T.z T.a_Form H v g ∧ FOk f ∧ FOk g ∧ ∀ p H', H p = none → Same H H' → FormZ T.z T.a_Form H' p (addM f g) → Q (.ref p) H'
  | _ => False
@[reducible] def t_Form___add_0 (w : World) (T : Txt K mg) : TS := sDPutZ T.z (tVar 2) (tVar 3) (tOp oMul (tVar 4) (tFld K (tVar 1) "under"))
@[reducible] def t_Form___add_1 (w : World) (T : Txt K mg) : TS := sDPutZ T.z (tVar 2) (tVar 3) (tOp oAdd (tDGetZ T.z (tVar 2) (tVar 3) (tC (.int 0))) (tOp oMul (tVar 4) (tFld K (tVar 0) "under")))
@[reducible] def t_Form___add_2 (w : World) (T : Txt K mg) : TS := tRet (tFrzE T.z (tCall (sp_made T) [] E0 (tCons (tVar 2) (tCons (tOp oMul (tFld K (tVar 0) "under") (tFld K (tVar 1) "under")) (tNil)))))
@[reducible] def t_Form___add_3 (w : World) (T : Txt K mg) : TS := tSeq (tFor (iItemsZ (tFld K (tVar 1) "rows")) (gTup K 2 (gCons (gName 3) (gCons (gName 4) gNil))) (t_Form___add_1 w T)) (t_Form___add_2 w T)
@[reducible] def t_Form___add_4 (w : World) (T : Txt K mg) : TS := tSeq (tFor (iItemsZ (tFld K (tVar 0) "rows")) (gTup K 2 (gCons (gName 3) (gCons (gName 4) gNil))) (t_Form___add_0 w T)) (t_Form___add_3 w T)
def t_Form___add (w : World) (T : Txt K mg) : TS := tSeq (tAsg (tCall (sp_as_form T) [] E0 (tCons (tVar 1) (tNil))) (gName 1)) (tSeq (tAsg (tDNewK) (gName 2)) (t_Form___add_4 w T))
theorem len_Form___add (T : Txt K mg) : ∀ (vs : List V) (H : Hp) (Q : VK) (E : XK), sp_Form___add T vs H Q E → vs.length = (["self", "other"] : List Str).length := by
  intro vs H Q E h
  unfold sp_Form___add at h
  split at h
  all_goals first | rfl | exact h.elim
theorem rd_Form___add (T : Txt K mg) (vs : List V) (H : Hp) (Q : VK) (E : XK) (h : sp_Form___add T vs H Q E) : t_Form___add w T { nx := fun _ H' => Q .non H', rt := Q } (start ["self", "other", "rows", "product", "many"] vs) H := by
  match vs, h with
  | [.ref o, v], h =>
  obtain ⟨f, g, hf, hg, fo, go, q⟩ := h
  have sz : sizeLine = 16777216 := rfl
  have ff := fo.few
  have gf := go.few
  unfold t_Form___add
  walk_at "st"
  repeat walk_at "w"
  refine ⟨g, hg, fun u H0 s0 hu => ?_⟩
  repeat walk_at "w"
  rename_i r H1 r0 s1 hr
  have S1 := s0.trans s1
  obtain ⟨dx, d, ho, hd⟩ := hf.mono S1
  obtain ⟨dy, e, hu, he⟩ := hu.mono s1
  obtain ⟨od, hd⟩ := hd
  obtain ⟨oe, he⟩ := he
  have ro : o ≠ r := fun z => by rw [z, hr] at ho; cases ho
  have ru : u ≠ r := fun z => by rw [z, hr] at hu; cases hu
  refine r_iItemsZ ?_
  repeat walk_at "w"
  refine r_fget ho T.c_Form T.n_Form_rows (by rfl) ?_
  refine ⟨T.z, d, od, _, rfl, hd, for_pz (fun i σ H' => SB r H1 H' ∧ DE T.z H' r (rowsT ((f.1.take i).foldl (timesS g.2) [])) ∧ ∃ x3 x4, σ = [some (.ref o), some (.ref u), some (.ref r), x3, x4]) ⟨fun _ _ _ z => z, .new hr, _, _, rfl⟩ (fun i σ H' _ w => hd.keep (frzk_dK hr w.1)) ?_ ?_⟩
  · rintro i k v t q σ H3 H4 hk ⟨b3, hr3, x3, x4, rfl⟩ t0 hq s4 ht
    obtain ⟨a, ha, rfl, rfl⟩ := rowsT_get hk
    have an := fo.num a (List.mem_of_getElem? ha)
    have cm : CMulW a.2 g.2 := wide_mul (b := 200) an (by have := go.pos; omega) (by decide) (by decide) (by decide)
    have il := (List.getElem?_eq_some_iff.mp ha).1
    rw [take_succ ha, List.foldl_append]
    have ndt : ((f.1.take i).map (·.1)).Nodup := fo.nd.sublist ((List.take_sublist ..).map _)
    have te := times_eq g.2 (f.1.take i) [] ndt (by simp)
    have tn : (((f.1.take i).foldl (timesS g.2) []).map (·.1)).Nodup := by rw [te, List.nil_append, List.map_map]; exact ndt
    have tl : ((f.1.take i).foldl (timesS g.2) []).length ≤ 1000 := by rw [te, List.nil_append, List.length_map, List.length_take]; omega
    generalize (f.1.take i).foldl (timesS g.2) [] = acc at *
    have hu4 := CP.Same.to s4 (b3 _ _ ru hu)
    have hr4 := hr3.mono s4
    have gp := go.pos
    repeat walk_at "w"
    refine r_dputZ ?_
    repeat walk_at "w"
    refine r_fget hu4 T.c_Form T.n_Form_under (by rfl) ?_
    repeat walk_at "w"
    refine ⟨r, _, keyT a.1, q, rfl, rfl, hr4, hq.mono s4, by rw [rowsT_len]; omega, fun H5 b5 x5 => ?_⟩
    exact ⟨SB.trans' (SB.trans' b3 (Same.sb' s4)) b5, put_rows tn x5, _, _, rfl⟩
  · rintro σ H3 ⟨b3, hr3, x3, x4, rfl⟩
    rw [rowsT_len, List.take_length] at hr3
    have te := times_eq g.2 f.1 [] fo.nd (by simp)
    have tn : ((f.1.foldl (timesS g.2) []).map (·.1)).Nodup := by rw [te, List.nil_append, List.map_map]; exact fo.nd
    have tl : (f.1.foldl (timesS g.2) []).length ≤ 1000 := by rw [te, List.nil_append, List.length_map]; omega
    repeat walk_at "w"
    refine r_iItemsZ ?_
    repeat walk_at "w"
    refine r_fget (b3 _ _ ru hu) T.c_Form T.n_Form_rows (by rfl) ?_
    refine ⟨T.z, e, oe, _, rfl, he.keep (frzk_dK hr b3), for_pz (fun j σ H' => SB r H1 H' ∧ DE T.z H' r (rowsT ((g.1.take j).foldl (addS f.2) (f.1.foldl (timesS g.2) []))) ∧ ∃ x3 x4, σ = [some (.ref o), some (.ref u), some (.ref r), x3, x4]) ⟨b3, hr3, _, _, rfl⟩ (fun i σ H' _ w => he.keep (frzk_dK hr w.1)) ?_ ?_⟩
    · rintro j k v t q σ H6 H7 hk ⟨b6, hr6, x3, x4, rfl⟩ t0 hq s7 ht
      obtain ⟨b, hb, rfl, rfl⟩ := rowsT_get hk
      have bn := go.num b (List.mem_of_getElem? hb)
      have cm : CMulW b.2 f.2 := wide_mul (b := 200) bn (by have := fo.pos; omega) (by decide) (by decide) (by decide)
      have fp := fo.pos
      have il := (List.getElem?_eq_some_iff.mp hb).1
      rw [take_succ hb, List.foldl_append]
      have un := addS_nd (n := f.2) (rs := g.1.take j) tn
      have ul := addS_len (n := f.2) (rs := g.1.take j) (acc := f.1.foldl (timesS g.2) [])
      have ul2 : (g.1.take j).length ≤ 1000 := by rw [List.length_take]; omega
      generalize (g.1.take j).foldl (addS f.2) (f.1.foldl (timesS g.2) []) = acc at *
      have ho7 := CP.Same.to s7 (b6 _ _ ro ho)
      have hr7 := hr6.mono s7
      repeat walk_at "w"
      refine r_dputZ ?_
      repeat walk_at "w"
      refine r_dgetZ ?_
      walk_at "w"
      refine ⟨r, _, rfl, .inl hr7, ?_⟩
      repeat walk_at "w"
      refine ⟨.inl hr7, keyT b.1, q, rfl, .inr (hq.mono s7), ?_⟩
      rw [getT_val]
      repeat walk_at "w"
      refine r_fget ho7 T.c_Form T.n_Form_under (by rfl) ?_
      repeat walk_at "w"
      refine ⟨r, _, keyT b.1, q, rfl, rfl, hr7, hq.mono s7, by rw [rowsT_len]; omega, fun H8 b8 x8 => ?_⟩
      exact ⟨SB.trans' (SB.trans' b6 (Same.sb' s7)) b8, put_rows un x8, _, _, rfl⟩
    · rintro σ H6 ⟨b6, hr6, x3, x4, rfl⟩
      rw [rowsT_len, List.take_length] at hr6
      have un := addS_nd (n := f.2) (rs := g.1) tn
      have ul := addS_len (n := f.2) (rs := g.1) (acc := f.1.foldl (timesS g.2) [])
      repeat walk_at "w"
      refine r_frzE hr6 fun H7 b7 hr7 => ?_
      have B7 := SB.trans' b6 b7
      have ho7 := B7 _ _ ro ho
      have hu7 := B7 _ _ ru hu
      have S7 : Same H H7 := CP.Same.sb S1 (L2.Same.free s0 r0) B7
      repeat walk_at "w"
      refine r_fget ho7 T.c_Form T.n_Form_under (by rfl) ?_
      repeat walk_at "w"
      refine r_fget hu7 T.c_Form T.n_Form_under (by rfl) ?_
      have pm := pos_mul fo.pos go.pos
      have fp := fo.pos
      have gp := go.pos
      refine r_I (mul_ok (by omega)) ?_
      repeat walk_at "w"
      refine ⟨addR f g, hr7, by show (g.1.foldl (addS f.2) (f.1.foldl (timesS g.2) [])).length ≤ 1000000; omega, pm.1, pm.2, fun p H8 p0 s8 hf => ?_⟩
      exact q p H8 (L2.Same.free S7 p0) (S7.trans s8) hf

theorem ok_Form___add (T : Txt K mg) : FnOk T.z.1 T.z.2 K mg base CX0 5 T.a_Form___add T.fd_Form___add ["self", "other"] (sp_Form___add T) :=
  T.F_Form___add.ok sc_Form___add (len_Form___add T) fun cdv A outer s H vs Q E hr h => ⟨t_Form___add T.z.2 T, (pss_cons (ps_set (i := 1) sc_Form___add.nd rfl (Or.inl rfl) (pe_call (ok_as_form T) (hr.mono (by decide)) (by rfl) T.m_as_form T.F_as_form.kp (b_as_form T) .nil pass0 (pa_cons (pv 1) pa_nil)))
      (pss_cons (ps_set (i := 2) sc_Form___add.nd rfl (Or.inl rfl) pe_dnewK)
      (pss_cons (ps_for PassesOwn.never rfl (pi_itemsZ (pe_fld (pv 0) rfl)) (pg_tup rfl (pgs_cons (pg_name (i := 3) sc_Form___add.nd rfl (Or.inl rfl)) (pgs_cons (pg_name (i := 4) sc_Form___add.nd rfl (Or.inl rfl)) pgs_nil))) (pss_one (ps_dputZ (hu_of hr) (pv 2) (pv 3) (pe_op op_mulW (pv 4) (pe_fld (pv 1) rfl)) rfl)))
      (pss_cons (ps_for PassesOwn.never rfl (pi_itemsZ (pe_fld (pv 1) rfl)) (pg_tup rfl (pgs_cons (pg_name (i := 3) sc_Form___add.nd rfl (Or.inl rfl)) (pgs_cons (pg_name (i := 4) sc_Form___add.nd rfl (Or.inl rfl)) pgs_nil))) (pss_one (ps_dputZ (hu_of hr) (pv 2) (pv 3) (pe_op op_add (pe_dgetZ (hu_of hr) (pv 2) (pv 3) pe_int ⟨by rfl, by rfl, by rfl, by rfl⟩) (pe_op op_mulW (pv 4) (pe_fld (pv 0) rfl))) rfl)))
      (pss_one (ps_ret (pe_frzZ (pe_call (ok_made T) (hr.mono (by decide)) (by rfl) T.m_made T.F_made.kp (b_made T) .nil pass0 (pa_cons (pv 2) (pa_cons (pe_op op_mulW (pe_fld (pv 0) rfl) (pe_fld (pv 1) rfl)) pa_nil)))))))))), rd_Form___add T vs H Q E h⟩
end
end CP

namespace CP
open PySem L2
section
variable {P : Program} {w : World} {K : PySem.W.Frag} {mg : Str → Option Value} {base : Heap}
def sp_Form___mul (T : Txt K mg) : Sp := fun vs H Q _ => match vs with
  | [.ref o, v] => ∃ f g, FormZ T.z T.a_Form H o f ∧ OpZ T.z T.a_Form H v g ∧ FOk f ∧ FOk g ∧ ∀ p H', H p = none → Same H H' → FormZ T.z T.a_Form H' p (mulM f g) → Q (.ref p) H'
  | _ => False
@[reducible] def t_Form___mul_0 (w : World) (T : Txt K mg) : TS := sDPutZ T.z (tVar 2) (tVar 7) (tOp oAdd (tDGetZ T.z (tVar 2) (tVar 7) (tC (.int 0))) (tOp oMul (tVar 4) (tVar 6)))
@[reducible] def t_Form___mul_1 (w : World) (T : Txt K mg) : TS := tSeq (tAsg (tCB ((oTupleZ K)) (tCons (tCB (rSortedTS K) (tCons (tOp (rCatA K) (tVar 3) (tVar 5)) (tNil))) (tNil))) (gName 7)) (t_Form___mul_0 w T)
@[reducible] def t_Form___mul_2 (w : World) (T : Txt K mg) : TS := tFor (iItemsZ (tFld K (tVar 1) "rows")) (gTup K 2 (gCons (gName 5) (gCons (gName 6) gNil))) (t_Form___mul_1 w T)
@[reducible] def t_Form___mul_3 (w : World) (T : Txt K mg) : TS := tRet (tFrzE T.z (tCall (sp_made T) [] E0 (tCons (tVar 2) (tCons (tOp oMul (tFld K (tVar 0) "under") (tFld K (tVar 1) "under")) (tNil)))))
@[reducible] def t_Form___mul_4 (w : World) (T : Txt K mg) : TS := tSeq (tFor (iItemsZ (tFld K (tVar 0) "rows")) (gTup K 2 (gCons (gName 3) (gCons (gName 4) gNil))) (t_Form___mul_2 w T)) (t_Form___mul_3 w T)
def t_Form___mul (w : World) (T : Txt K mg) : TS := tSeq (tAsg (tCall (sp_as_form T) [] E0 (tCons (tVar 1) (tNil))) (gName 1)) (tSeq (tAsg (tDNewK) (gName 2)) (t_Form___mul_4 w T))
theorem len_Form___mul (T : Txt K mg) : ∀ (vs : List V) (H : Hp) (Q : VK) (E : XK), sp_Form___mul T vs H Q E → vs.length = (["self", "other"] : List Str).length := by
  intro vs H Q E h
  unfold sp_Form___mul at h
  split at h
  all_goals first | rfl | exact h.elim
theorem rd_Form___mul (T : Txt K mg) (vs : List V) (H : Hp) (Q : VK) (E : XK) (h : sp_Form___mul T vs H Q E) : t_Form___mul w T { nx := fun _ H' => Q .non H', rt := Q } (start ["self", "other", "rows", "one", "many", "two", "more", "product"] vs) H := by
  match vs, h with
  | [.ref o, v], h =>
  obtain ⟨f, g, hf, hg, fo, go, q⟩ := h
  have sz : sizeLine = 16777216 := rfl
  have ff := fo.few
  have gf := go.few
  unfold t_Form___mul
  walk_at "st"
  repeat walk_at "w"
  refine ⟨g, hg, fun u H0 s0 hu => ?_⟩
  repeat walk_at "w"
  rename_i r H1 r0 s1 hr
  have S1 := s0.trans s1
  obtain ⟨dx, d, ho, hd⟩ := hf.mono S1
  obtain ⟨dy, e, hu, he⟩ := hu.mono s1
  obtain ⟨od, hd⟩ := hd
  obtain ⟨oe, he⟩ := he
  have ro : o ≠ r := fun z => by rw [z, hr] at ho; cases ho
  have ru : u ≠ r := fun z => by rw [z, hr] at hu; cases hu
  refine r_iItemsZ ?_
  repeat walk_at "w"
  refine r_fget ho T.c_Form T.n_Form_rows (by rfl) ?_
  refine ⟨T.z, d, od, _, rfl, hd, for_pz (fun i σ H' => SB r H1 H' ∧ DE T.z H' r (rowsT ((f.1.take i).foldl (mulRow g.1) [])) ∧ ∃ x3 x4 x5 x6 x7, σ = [some (.ref o), some (.ref u), some (.ref r), x3, x4, x5, x6, x7]) ⟨fun _ _ _ z => z, .new hr, _, _, _, _, _, rfl⟩ (fun i σ H' _ w => hd.keep (frzk_dK hr w.1)) ?_ ?_⟩
  · rintro i k v t q σ H3 H4 hk ⟨b3, hr3, x3, x4, x5, x6, x7, rfl⟩ t0 hq s4 ht
    obtain ⟨a, ha, rfl, rfl⟩ := rowsT_get hk
    have an := fo.num a (List.mem_of_getElem? ha)
    obtain ⟨_, al⟩ := fo.lets a (List.mem_of_getElem? ha)
    have fl := (List.getElem?_eq_some_iff.mp ha).1
    rw [take_succ ha, List.foldl_append]
    obtain ⟨accn, accl⟩ := mulR_ok (gs := g.1) (fs := f.1.take i) (acc := []) (by simp)
    have accl2 : ((f.1.take i).foldl (mulRow g.1) []).length ≤ 1000000 := by
      have h1 : (f.1.take i).length * g.1.length ≤ 1000 * 1000 := Nat.mul_le_mul (by rw [List.length_take]; have := fo.few; omega) go.few
      simp only [List.length_nil] at accl
      omega
    generalize (f.1.take i).foldl (mulRow g.1) [] = acc at *
    have b4 := SB.trans' b3 (Same.sb' s4)
    have hr4 := hr3.mono s4
    have hq4 := hq.mono s4
    repeat walk_at "w"
    refine r_iItemsZ ?_
    repeat walk_at "w"
    refine r_fget (b4 _ _ ru hu) T.c_Form T.n_Form_rows (by rfl) ?_
    refine ⟨T.z, e, oe, _, rfl, he.keep (frzk_dK hr b4), for_pz (fun j σ H' => SB r H1 H' ∧ TupZ H' q ((keyT a.1).map kV) ∧ DE T.z H' r (rowsT ((g.1.take j).foldl (mulStep a) acc)) ∧ ∃ x5 x6 x7, σ = [some (.ref o), some (.ref u), some (.ref r), some (.ref q), some (.int a.2), x5, x6, x7]) ⟨b4, hq4, hr4, _, _, _, rfl⟩ (fun i σ H' _ w => he.keep (frzk_dK hr w.1)) ?_ ?_⟩
    · clear b3 hr3 hk ht s4 b4 hr4 hq4 hq t0
      rintro j k v t2 q2 σ H6 H7 hk2 ⟨b6, hq6, hr6, y5, y6, y7, rfl⟩ t20 hq2 s7 ht2
      obtain ⟨b, hb, rfl, rfl⟩ := rowsT_get hk2
      have bn := go.num b (List.mem_of_getElem? hb)
      have cm : CMulW a.2 b.2 := wide_mul an bn (by decide) (by decide) (by decide)
      obtain ⟨_, bl⟩ := go.lets b (List.mem_of_getElem? hb)
      rw [take_succ hb, List.foldl_append]
      rw [keyT_V] at hq2
      have hq6' := hq6
      rw [keyT_V] at hq6'
      repeat walk_at "w"
      refine r_catTZ (hq6'.mono s7).sq (hq2.mono s7).sq (by rw [strL_len, strL_len]; omega) fun p1 H8 s8 hp1 => ?_
      rw [← strL_app] at hp1
      repeat walk_at "w"
      refine r_srtTZ hp1 (by rw [List.length_append]; omega) fun p2 H9 p20 s9 hp2 => ?_
      repeat walk_at "w"
      refine r_tupLZ (.of hp2) fun p3 H10 p30 s10 hp3 => ?_
      have s710 := s7.trans (s8.trans (s9.trans s10))
      have hr10 := hr6.mono s710
      have key : TupZ H10 p3 ((keyT (srt (a.1 ++ b.1))).map kV) := by rw [keyT_V]; exact hp3
      repeat walk_at "w"
      refine r_dputZ ?_
      repeat walk_at "w"
      refine r_dgetZ ?_
      walk_at "w"
      refine ⟨r, _, rfl, .inl hr10, ?_⟩
      repeat walk_at "w"
      refine ⟨.inl hr10, keyT (srt (a.1 ++ b.1)), p3, rfl, .inr key, ?_⟩
      rw [getT_val]
      repeat walk_at "w"
      have glen := (List.getElem?_eq_some_iff.mp hb).1
      have tl : ((g.1.take j).foldl (mulStep a) acc).length ≤ acc.length + (g.1.take j).length := mulRow_len (gs := g.1.take j) (a := a) (acc := acc)
      have tl2 : (g.1.take j).length ≤ 1000 := by rw [List.length_take]; have := go.few; omega
      have tn : (((g.1.take j).foldl (mulStep a) acc).map (·.1)).Nodup := mulRow_nd (gs := g.1.take j) accn
      refine ⟨r, _, keyT (srt (a.1 ++ b.1)), p3, rfl, rfl, hr10, key, by rw [rowsT_len]; omega, fun H11 b11 x11 => ?_⟩
      have fk : FrzK H6 H11 := (FrzK.of s710).trans (.sb hr10.nf b11)
      exact ⟨SB.trans' (SB.trans' b6 (Same.sb' s710)) b11, (let ⟨ob, e1, e2⟩ := hq6; ⟨ob, fk _ _ _ e1, e2⟩), put_rows tn x11, _, _, _, rfl⟩
    · rintro σ H6 ⟨b6, hq6, hr6, y5, y6, y7, rfl⟩
      rw [rowsT_len, List.take_length] at hr6
      exact ⟨b6, hr6, _, _, _, _, _, rfl⟩
  · rintro σ H3 ⟨b3, hr3, x3, x4, x5, x6, x7, rfl⟩
    rw [rowsT_len, List.take_length] at hr3
    repeat walk_at "w"
    refine r_frzE hr3 fun H7 b7 hr7 => ?_
    have B7 := SB.trans' b3 b7
    have ho7 := B7 _ _ ro ho
    have hu7 := B7 _ _ ru hu
    have S7 : Same H H7 := CP.Same.sb S1 (L2.Same.free s0 r0) B7
    repeat walk_at "w"
    refine r_fget ho7 T.c_Form T.n_Form_under (by rfl) ?_
    repeat walk_at "w"
    refine r_fget hu7 T.c_Form T.n_Form_under (by rfl) ?_
    have pm := pos_mul fo.pos go.pos
    have p1 := fo.pos
    have p2 := go.pos
    refine r_I (mul_ok (by omega)) ?_
    repeat walk_at "w"
    obtain ⟨nd, len⟩ := mulR_ok (gs := g.1) (fs := f.1) (acc := []) (by simp)
    have h1 : f.1.length * g.1.length ≤ 1000 * 1000 := Nat.mul_le_mul fo.few go.few
    simp only [List.length_nil] at len
    have few : (mulR f.1 g.1).length ≤ 1000000 := by
      show (f.1.foldl (mulRow g.1) []).length ≤ 1000000
      omega
    refine ⟨mulR f.1 g.1, hr7, few, pm.1, pm.2, fun p H5 p0 s5 hf => ?_⟩
    exact q p H5 (L2.Same.free S7 p0) (S7.trans s5) hf

theorem ok_Form___mul (T : Txt K mg) : FnOk T.z.1 T.z.2 K mg base CX0 5 T.a_Form___mul T.fd_Form___mul ["self", "other"] (sp_Form___mul T) :=
  T.F_Form___mul.ok sc_Form___mul (len_Form___mul T) fun cdv A outer s H vs Q E hr h => ⟨t_Form___mul T.z.2 T, (pss_cons (ps_set (i := 1) sc_Form___mul.nd rfl (Or.inl rfl) (pe_call (ok_as_form T) (hr.mono (by decide)) (by rfl) T.m_as_form T.F_as_form.kp (b_as_form T) .nil pass0 (pa_cons (pv 1) pa_nil)))
      (pss_cons (ps_set (i := 2) sc_Form___mul.nd rfl (Or.inl rfl) pe_dnewK)
      (pss_cons (ps_for PassesOwn.never rfl (pi_itemsZ (pe_fld (pv 0) rfl)) (pg_tup rfl (pgs_cons (pg_name (i := 3) sc_Form___mul.nd rfl (Or.inl rfl)) (pgs_cons (pg_name (i := 4) sc_Form___mul.nd rfl (Or.inl rfl)) pgs_nil))) (pss_one (ps_for PassesOwn.never rfl (pi_itemsZ (pe_fld (pv 1) rfl)) (pg_tup rfl (pgs_cons (pg_name (i := 5) sc_Form___mul.nd rfl (Or.inl rfl)) (pgs_cons (pg_name (i := 6) sc_Form___mul.nd rfl (Or.inl rfl)) pgs_nil))) (pss_cons (ps_set (i := 7) sc_Form___mul.nd rfl (Or.inl rfl) (pe_callTy cr_tupZ (by rfl) T.n_tuple (by decide +kernel) (pa_cons (pe_callB cr_sortedTS (by rfl) T.n_sorted (by decide +kernel) (pa_cons (pe_op op_catA (pv 3) (pv 5)) pa_nil)) pa_nil)))
      (pss_one (ps_dputZ (hu_of hr) (pv 2) (pv 7) (pe_op op_add (pe_dgetZ (hu_of hr) (pv 2) (pv 7) pe_int ⟨by rfl, by rfl, by rfl, by rfl⟩) (pe_op op_mulW (pv 4) (pv 6))) rfl))))))
      (pss_one (ps_ret (pe_frzZ (pe_call (ok_made T) (hr.mono (by decide)) (by rfl) T.m_made T.F_made.kp (b_made T) .nil pass0 (pa_cons (pv 2) (pa_cons (pe_op op_mulW (pe_fld (pv 0) rfl) (pe_fld (pv 1) rfl)) pa_nil))))))))), rd_Form___mul T vs H Q E h⟩
end
end CP

namespace CP
open PySem L2
section
variable {P : Program} {w : World} {K : PySem.W.Frag} {mg : Str → Option Value} {base : Heap}
def sp_check_letter (T : Txt K mg) : Sp := fun vs H Q _ => match vs with
  | [.str z] => letB z = true ∧ ∀ H', Same H H' → Q .non H'
  | _ => False
def t_check_letter (w : World) (T : Txt K mg) : TS := tIfS (tNot (tB (tCall (sp_is_letter T) [] E0 (tCons (tVar 0) (tNil))))) (tNever) (tNext)
theorem len_check_letter (T : Txt K mg) : ∀ (vs : List V) (H : Hp) (Q : VK) (E : XK), sp_check_letter T vs H Q E → vs.length = (["name"] : List Str).length := by
  intro vs H Q E h
  unfold sp_check_letter at h
  split at h
  all_goals first | rfl | exact h.elim
theorem rd_check_letter (T : Txt K mg) (vs : List V) (H : Hp) (Q : VK) (E : XK) (h : sp_check_letter T vs H Q E) : t_check_letter w T { nx := fun _ H' => Q .non H', rt := Q } (start ["name"] vs) H := by
  match vs, h with
  | [.str z], h =>
  obtain ⟨hz, q⟩ := h
  unfold t_check_letter
  walk_at "st"
  repeat walk_at "w"
  refine ⟨"str", tk_str, .inr ⟨z, rfl, rfl, by have := let_len hz; have : sizeLine = 16777216 := rfl; omega, let_lay hz, fun H' s => ?_⟩⟩
  rw [hz]
  repeat walk_at "w"
  exact q H' s

theorem ok_check_letter (T : Txt K mg) : FnOk T.z.1 T.z.2 K mg base CX0 2 T.a_check_letter T.fd_check_letter ["name"] (sp_check_letter T) :=
  T.F_check_letter.ok sc_check_letter (len_check_letter T) fun cdv A outer s H vs Q E hr h => ⟨t_check_letter T.z.2 T, (pss_one (ps_if (pt_not (pt_val (pe_call (ok_is_letter T) (hr.mono (by decide)) (by rfl) T.m_is_letter T.F_is_letter.kp (b_is_letter T) .nil pass0 (pa_cons (pv 0) pa_nil)))) (pss_one ps_never) pss_nil)), rd_check_letter T vs H Q E h⟩
end
end CP

namespace CP
open PySem L2
section
variable {P : Program} {w : World} {K : PySem.W.Frag} {mg : Str → Option Value} {base : Heap}
/-- a product without one letter -/
def restM (p : List Str) (x : Str) : List Str := p.filter fun y => decide (y ≠ x)
def powM (g : Fm) : Nat → Fm
  | 0 => madeM [([], 1)] 1
  | k + 1 => mulM (powM g k) g
def oneM (u : Int) (x : Str) (r : Tm) : Fm := madeM [(restM r.1 x, r.2)] u
def putStep (u : Int) (g : Fm) (x : Str) (acc : Fm) (r : Tm) : Fm := addM acc (mulM (oneM u x r) (powM g (r.1.count x)))
/-- a form in which another one stands for a letter -/
def putM (f : Fm) (x : Str) (g : Fm) : Fm := f.1.foldl (putStep f.2 g x) (madeM [] 1)
def cntM (f : Fm) (x : Str) : Nat := maxL (f.1.map fun r => r.1.count x)
/-- what is asked of the forms on the way -/
structure PutOk (f : Fm) (x : Str) (g : Fm) : Prop where
  fo : FOk f
  go : FOk g
  pow : ∀ k, k ≤ cntM f x → FOk (powM g k)
  acc : ∀ i, i < f.1.length → FOk ((f.1.take i).foldl (putStep f.2 g x) (madeM [] 1))
  one : ∀ r ∈ f.1, FOk (oneM f.2 x r) ∧ FOk (mulM (oneM f.2 x r) (powM g (r.1.count x)))
theorem rest_len (p : List Str) (x : Str) : (restM p x).length + p.count x = p.length := by
  induction p with
  | nil => rfl
  | cons y p ih =>
    unfold restM at ih ⊢
    rw [List.filter_cons, List.count_cons, List.length_cons]
    by_cases e : y = x
    · rw [if_neg (by simp [e]), if_pos (by simp [e])]
      omega
    · rw [if_pos (by simp [e]), if_neg (by simp [e]), List.length_cons]
      omega
theorem put_succ {u : Int} {g : Fm} {x : Str} {rs : List Tm} {a : Fm} {i : Nat} {r : Tm} (h : rs[i]? = some r) : (rs.take (i + 1)).foldl (putStep u g x) a = putStep u g x ((rs.take i).foldl (putStep u g x) a) r := by
  rw [take_succ h, List.foldl_append]
  rfl
def sp_Form_put (T : Txt K mg) : Sp := fun vs H Q _ => match vs with
  | [.ref o, .str x, .ref u] => ∃ f g, FormZ T.z T.a_Form H o f ∧ FormZ T.z T.a_Form H u g ∧ letB x = true ∧ PutOk f x g ∧ ∀ p H', Same H H' → FormZ T.z T.a_Form H' p (putM f x g) → Q (.ref p) H'
  | _ => False
@[reducible] def t_Form_put_0 (w : World) (T : Txt K mg) : TS := tDrop (tBM K "list" rAppend (tVar 3) (tCons (tOp (rBinO T.a_Form (sp_Form___mul T) E0) (tOp (rIxL K) (tVar 3) (tUn oNeg (tC (.int 1)))) (tVar 2)) (tNil)))
@[reducible] def t_Form_put_1 (w : World) (T : Txt K mg) : TS := tAsg (tOp (rBinO T.a_Form (sp_Form___add T) E0) (tVar 6) (tOp (rBinO T.a_Form (sp_Form___mul T) E0) (tCall (sp_made T) [] E0 (tCons (tDispZ T.z (tVar 8) (tVar 7)) (tCons (tFld K (tVar 0) "under") (tNil)))) (tOp (rIxL K) (tVar 3) (tOp oSub (tCB (rLenA K) (tCons (tVar 5) (tNil))) (tCB (rLenA K) (tCons (tVar 8) (tNil))))))) (gName 6)
@[reducible] def t_Form_put_2 (w : World) (T : Txt K mg) : TS := tSeq (tAsg (tCB ((oTupleZ K)) (tCons (tLc (iTup K (tVar 5)) (gName 9) (tTest (tOp (rNeX K) (tVar 9) (tVar 1))) (tVar 9) [9]) (tNil))) (gName 8)) (t_Form_put_1 w T)
@[reducible] def t_Form_put_3 (w : World) (T : Txt K mg) : TS := tSeq (tFor (iItemsZ (tFld K (tVar 0) "rows")) (gTup K 2 (gCons (gName 5) (gCons (gName 7) gNil))) (t_Form_put_2 w T)) (tRet (tVar 6))
@[reducible] def t_Form_put_4 (w : World) (T : Txt K mg) : TS := tSeq (tAsg (tCall (sp_made T) [] E0 (tCons (tFrzV T.z (tDNewK)) (tCons (tC (.int 1)) (tNil)))) (gName 6)) (t_Form_put_3 w T)
@[reducible] def t_Form_put_5 (w : World) (T : Txt K mg) : TS := tSeq (tFor (iRng1 (tCons (tCB (rMax K) (tCons (tOp rCat (tLst (tCons (tC (.int 0)) (tNil))) (tLc (iKeysZ (tFld K (tVar 0) "rows")) (gName 5) (tYes) (tCntZ (tVar 5) (tVar 1)) [5])) (tNil))) (tNil))) (gName 4) (t_Form_put_0 w T)) (t_Form_put_4 w T)
@[reducible] def t_Form_put_6 (w : World) (T : Txt K mg) : TS := tSeq (tAsg (tLst (tCons (tCall (sp_made T) [] E0 (tCons (tDispZ T.z (tTupZ (tNil)) (tC (.int 1))) (tCons (tC (.int 1)) (tNil)))) (tNil))) (gName 3)) (t_Form_put_5 w T)
@[reducible] def t_Form_put_7 (w : World) (T : Txt K mg) : TS := tSeq (tDrop (tCall (sp_check_form T) [] E0 (tCons (tVar 2) (tNil)))) (t_Form_put_6 w T)
def t_Form_put (w : World) (T : Txt K mg) : TS := tSeq (tDrop (tCall (sp_check_letter T) [] E0 (tCons (tVar 1) (tNil)))) (t_Form_put_7 w T)
theorem len_Form_put (T : Txt K mg) : ∀ (vs : List V) (H : Hp) (Q : VK) (E : XK), sp_Form_put T vs H Q E → vs.length = (["self", "name", "other"] : List Str).length := by
  intro vs H Q E h
  unfold sp_Form_put at h
  split at h
  all_goals first | rfl | exact h.elim
theorem rd_Form_put (T : Txt K mg) (vs : List V) (H : Hp) (Q : VK) (E : XK) (h : sp_Form_put T vs H Q E) : t_Form_put w T { nx := fun _ H' => Q .non H', rt := Q } (start ["self", "name", "other", "powers", "turn", "product", "found", "many", "rest", "one"] vs) H := by
  match vs, h with
  | [.ref o, .str x, .ref u], h =>
  obtain ⟨f, g, hf, hg, lx, po, q⟩ := h
  obtain ⟨dy, e, hu', _⟩ := id hg
  have sz : sizeLine = 16777216 := rfl
  have ff := po.fo.few
  unfold t_Form_put
  walk_at "st"
  repeat walk_at "w"
  refine ⟨lx, fun H1 s1 => ?_⟩
  repeat walk_at "w"
  first | refine ⟨dy, _, CP.Same.to s1 hu', ?_⟩ | refine .inr ⟨u, dy, _, rfl, CP.Same.to s1 hu', ?_⟩
  repeat walk_at "w"
  refine r_dispZ fun d H2 d0 s2 hd => ?_
  refine r_tupZ ?_
  repeat walk_at "w"
  refine ⟨Nat.zero_le _, fun t H3 t0 s3 ht => ?_⟩
  repeat walk_at "w"
  refine ⟨CP.Same.to s3 hd, keyT [], t, rfl, ht, fun H4 sb hd4 => ?_⟩
  have S4 : Same H1 H4 := CP.Same.sb (s2.trans s3) d0 sb
  repeat walk_at "w"
  refine ⟨[([], 1)], hd4, by simp, by decide, by decide, fun o1 H5 o10 s5 hf1 => ?_⟩
  repeat walk_at "w"
  rename_i pw H6 pw0 s6 hpw p7 H7 p70 s7 hp7
  have S6 : Same H H6 := s1.trans (S4.trans (s5.trans s6))
  have hf6 := hf.mono S6
  obtain ⟨dx, d6, ho6, hd6⟩ := id hf6
  have hp1 : FmAt T.z T.a_Form H6 (.ref o1) (powM g 0) := ⟨o1, rfl, hf1.mono s6⟩
  obtain ⟨od, hd6⟩ := hd6
  refine r_iKeysZ ?_
  repeat walk_at "w"
  refine r_fget (CP.Same.to s7 ho6) T.c_Form T.n_Form_rows (by rfl) ?_
  refine ⟨T.z, d6, od, _, rfl, hd6.keep (.of s7), fun D D0 => lc_kz (f.1.map fun r => V.int (r.1.count x : Nat)) D0 (hd6.keep (.of s7)) (by rw [rowsT_len, List.length_map]) (by rw [rowsT_len]; omega) (fun i k v y q H2 N hk hy s2 hq yes => ?_) fun H8 s8 hD => ?_⟩
  · obtain ⟨r, hr, rfl, rfl⟩ := rowsT_get hk
    have hy : y = .int (r.1.count x : Nat) := by
      rw [List.getElem?_map, hr] at hy
      exact (Option.some.inj hy).symm
    subst hy
    rw [keyT_V] at hq
    repeat walk_at "w"
    refine ⟨rfl, r_yes (if_t ?_)⟩
    refine r_cntZ ?_
    repeat walk_at "w"
    refine ⟨q, r.1, rfl, hq, ?_⟩
    repeat walk_at "w"
    exact ⟨hq, x, rfl, yes H2 (Same.refl _)⟩
  refine r_cat (CP.Same.to s8 hp7) hD (by rw [List.length_map]; show 1 + _ ≤ _; omega) fun l H9 l0 s9 hl => ?_
  repeat walk_at "w"
  refine r_maxL (l := f.1.map fun r => r.1.count x) (by rw [hl, List.map_map]; rfl) ?_
  have cm : cntM f x ≤ 1000 := by
    unfold cntM
    rcases maxL_mem (f.1.map fun r => r.1.count x) with e | e
    · omega
    · obtain ⟨r, hr, e2⟩ := List.mem_map.mp e
      have := (po.fo.lets r hr).2
      have := List.count_le_length (a := x) (l := r.1)
      omega
  have cm2 : maxL (f.1.map fun r => r.1.count x) = cntM f x := rfl
  rw [cm2]
  have S9 := S6.trans (s7.trans (s8.trans s9))
  have s69 := s7.trans (s8.trans s9)
  have hpw9 := CP.Same.to s69 hpw
  have hp9 := hp1.mono s69
  have hf9 := hf.mono S9
  have hg9 := hg.mono S9
  clear hpw hp7 hD hl l0 D0 hd6 ho6 hf6 hp1
  refine r_rng (by omega) (by omega) ?_
  refine for_range (fun i σ H' => SB pw H9 H' ∧ (∃ vs, H' pw = some (.lst vs) ∧ Paired (FmAt T.z T.a_Form H') vs ((List.range (i + 1)).map (powM g))) ∧ ∃ x4 x5 x6 x7 x8 x9, σ = [some (.ref o), some (.str x), some (.ref u), some (.ref pw), x4, x5, x6, x7, x8, x9]) ⟨fun _ _ _ w => w, ⟨_, hpw9, .cons hp9 .nil⟩, _, _, _, _, _, _, rfl⟩ ?_ ?_
  · rintro i σ H10 hi ⟨b10, ⟨vs, hv, pv⟩, x4, x5, x6, x7, x8, x9, rfl⟩
    have vl := pd_len pv
    rw [List.length_map, List.length_range] at vl
    obtain ⟨vl1, e1, ⟨a1, rfl, ha1⟩⟩ : ∃ v, vs[i]? = some v ∧ FmAt T.z T.a_Form H10 v (powM g i) := by
      have : ((List.range (i + 1)).map (powM g))[i]? = some (powM g i) := by
        rw [List.getElem?_map, List.getElem?_range (by omega)]
        rfl
      exact pd_get' pv this
    have ilt : i < cntM f x := by
      simp at hi
      omega
    have hg10 := hg9.lst hpw9 b10
    obtain ⟨dg, _, hgu, _⟩ := id hg10
    obtain ⟨da, _, haa, _⟩ := id ha1
    repeat walk_at "w"
    refine ⟨.inl ⟨rfl, _, .of hv⟩, ?_⟩
    repeat walk_at "w"
    try refine ⟨1, rfl, ?_⟩
    refine r_ixL (.of hv) (atI_lastZ (x := .ref a1) (by rw [List.getLast?_eq_getElem?, vl]; exact e1)) ?_
    repeat walk_at "w"
    refine ⟨a1, u, da, dg, _, _, rfl, rfl, haa, hgu, powM g i, g, ha1, .inl ⟨u, rfl, hg10⟩, po.pow i (by omega), po.go, fun w H11 w0 s11 hw => ⟨w, rfl, ?_⟩⟩
    repeat walk_at "w"
    refine r_app (CP.Same.to s11 hv) (by omega) fun H12 b12 h12 => ?_
    have b11 := SB.trans' b10 (Same.sb' s11)
    have hv11 := CP.Same.to s11 hv
    have pv11 := pd_mono pv fun _ _ z => z.mono s11
    refine ⟨SB.trans' b11 b12, ⟨_, h12, ?_⟩, _, _, _, _, _, _, rfl⟩
    rw [List.range_succ, List.map_append]
    exact pd_app (pd_mono pv11 fun _ _ z => z.lst hv11 b12) (pd_one ⟨w, rfl, hw.lst hv11 b12⟩)
  · rintro σ H10 ⟨b10, ⟨vs, hv, pv⟩, x4, x5, x6, x7, x8, x9, rfl⟩
    have S10 : Same H H10 := CP.Same.sb S9 (L2.Same.free (s1.trans (S4.trans s5)) pw0) b10
    have pv : Paired (FmAt T.z T.a_Form H10) vs ((List.range (cntM f x + 1)).map (powM g)) := by
      simpa using pv
    have hf10 := hf.mono S10
    clear hp9 hpw9 hf9 hg9 b10 s69 S9 S6 s7 s8 s9 hf1 hd4 ht sb S4 s2 s3
    repeat walk_at "w"
    refine r_frzV ?_
    repeat walk_at "w"
    rename_i d7 H11 d70 s11 hd7
    refine ⟨d7, [], rfl, .new hd7, fun H12 b12 z12 => ?_⟩
    have S12 : Same H10 H12 := CP.Same.sb s11 d70 b12
    repeat walk_at "w"
    refine ⟨[], z12, by simp, by decide, by decide, fun f0 H13 f00 s13 hf0 => ?_⟩
    have S13 := S12.trans s13
    repeat walk_at "w"
    refine r_iItemsZ ?_
    repeat walk_at "w"
    have hf13 := hf10.mono S13
    obtain ⟨dx, d13, ho13, hd13⟩ := id hf13
    obtain ⟨od2, hd13⟩ := hd13
    refine r_fget ho13 T.c_Form T.n_Form_rows (by rfl) ?_
    have hv13 := CP.Same.to S13 hv
    have pv13 := pd_mono pv fun _ _ z => z.mono S13
    have S13' := S10.trans S13
    clear hv pv z12 hd7 s11 b12 S12 s13 hf10 S13
    refine ⟨T.z, d13, od2, _, rfl, hd13, for_pz (fun i σ H' => Same H13 H' ∧ (∃ pf, FormZ T.z T.a_Form H' pf ((f.1.take i).foldl (putStep f.2 g x) (madeM [] 1)) ∧ σ[6]? = some (some (.ref pf))) ∧ ∃ x4 x5 x6 x7 x8 x9, σ = [some (.ref o), some (.str x), some (.ref u), some (.ref pw), x4, x5, x6, x7, x8, x9]) ⟨Same.refl _, ⟨f0, hf0, rfl⟩, _, _, _, _, _, _, rfl⟩ (fun i σ H' _ w => hd13.keep (.of w.1)) ?_ ?_⟩
    · rintro i k v t q1 σ H14 H15 hk ⟨s14, ⟨pf, hpf, hσ⟩, y4, y5, y6, y7, y8, y9, rfl⟩ t0 hq s15 ht
      obtain ⟨r, hr, rfl, rfl⟩ := rowsT_get hk
      obtain ⟨rfl⟩ : y6 = some (.ref pf) := Option.some.inj hσ
      have hm := List.mem_of_getElem? hr
      have il := (List.getElem?_eq_some_iff.mp hr).1
      rw [keyT_V] at hq
      have S15 := s14.trans s15
      have hq15 := hq.mono s15
      have lets := po.fo.lets r hm
      obtain ⟨fo1, fo2⟩ := po.one r hm
      have foa := po.acc i il
      rw [put_succ hr]
      generalize (f.1.take i).foldl (putStep f.2 g x) (madeM [] 1) = acc at *
      repeat walk_at "w"
      refine ⟨q1, rfl, ⟨_, hq15.sq⟩, fun D D0 => lc_filT (fun y => decide (y ≠ x)) D0 hq15.sq (by omega) (fun j w H16 N hw s16 no yes => ?_) fun H16 s16 hD => ?_⟩
      · repeat walk_at "w"
        refine ⟨rfl, ?_⟩
        repeat walk_at "w"
        by_cases e : w = x
        · rw [decide_eq_true e]
          exact no H16 (decide_eq_false fun z => z e) (Same.refl _)
        · rw [decide_eq_false e]
          repeat walk_at "w"
          exact yes H16 (decide_eq_true e) (Same.refl _)
      repeat walk_at "w"
      refine r_tupLZ (.of hD) fun l H17 l0 s17 hl => ?_
      repeat walk_at "w"
      have hD : H16 D = some (.lst (strL (restM r.1 x))) := hD
      have hl : TupZ H17 l (strL (restM r.1 x)) := hl
      have hl' : TupZ H17 l ((keyT (restM r.1 x)).map kV) := by rw [keyT_V]; exact hl
      have S17 := S15.trans (s16.trans s17)
      refine r_dispZ fun d18 H18 d180 s18 hd18 => ?_
      repeat walk_at "w"
      refine ⟨hd18, keyT (restM r.1 x), l, rfl, hl'.mono s18, fun H19 b19 z19 => ?_⟩
      have S19 : Same H17 H19 := CP.Same.sb s18 d180 b19
      repeat walk_at "w"
      refine r_fget (CP.Same.to (S17.trans S19) ho13) T.c_Form T.n_Form_under (by rfl) ?_
      have fp := po.fo.pos
      refine ⟨[(restM r.1 x, r.2)], z19, by simp, fp.1, by omega, fun o20 H20 o200 s20 ho20 => ?_⟩
      have ho20 : FormZ T.z T.a_Form H20 o20 (oneM f.2 x r) := ho20
      have S20 := S17.trans (S19.trans s20)
      repeat walk_at "w"
      refine r_lenT ((hq15.mono (s16.trans s17)).mono (S19.trans s20)).sq ?_
      repeat walk_at "w"
      refine r_lenT (hl.mono (S19.trans s20)).sq ?_
      rw [strL_len, strL_len]
      have rl := rest_len r.1 x
      have cl : r.1.count x ≤ cntM f x := maxL_le (List.mem_map.mpr ⟨r, hm, rfl⟩)
      repeat walk_at "w"
      rw [show ((r.1.length : Nat) : Int) - (((restM r.1 x).length : Nat) : Int) = ((r.1.count x : Nat) : Int) by omega]
      obtain ⟨w1, ew, a2, rfl, ha2⟩ := pd_get' pv13 (i := r.1.count x) (y := powM g (r.1.count x)) (by rw [List.getElem?_map, List.getElem?_range (by omega)]; rfl)
      refine r_ixL (.of (CP.Same.to S20 hv13)) (atI_nat ew) ?_
      have ha2 := ha2.mono S20
      obtain ⟨da, _, haa, _⟩ := id ha2
      obtain ⟨db, _, hbb, _⟩ := id ho20
      refine ⟨o20, a2, db, da, _, _, rfl, rfl, hbb, haa, oneM f.2 x r, powM g (r.1.count x), ho20, .inl ⟨a2, rfl, ha2⟩, fo1, po.pow _ cl, fun w H21 w0 s21 hw => ⟨w, rfl, ?_⟩⟩
      have hpf := hpf.mono ((s15.trans (s16.trans s17)).trans (S19.trans (s20.trans s21)))
      obtain ⟨dc, _, hcc, _⟩ := id hpf
      obtain ⟨de, _, hee, _⟩ := id hw
      refine ⟨pf, w, dc, de, _, _, rfl, rfl, hcc, hee, acc, mulM (oneM f.2 x r) (powM g (r.1.count x)), hpf, .inl ⟨w, rfl, hw⟩, foa, fo2, fun w2 H22 w20 s22 hw2 => ⟨w2, rfl, ?_⟩⟩
      repeat walk_at "w"
      exact ⟨S20.trans (s21.trans s22), ⟨w2, hw2, rfl⟩, _, _, _, _, _, _, rfl⟩
    · rintro σ H14 ⟨s14, ⟨pf, hpf, hσ⟩, y4, y5, y6, y7, y8, y9, rfl⟩
      obtain ⟨rfl⟩ : y6 = some (.ref pf) := Option.some.inj hσ
      rw [rowsT_len, List.take_length] at hpf
      repeat walk_at "w"
      exact q pf H14 (S13'.trans s14) hpf

theorem ok_Form_put (T : Txt K mg) : FnOk T.z.1 T.z.2 K mg base CX0 7 T.a_Form_put T.fd_Form_put ["self", "name", "other"] (sp_Form_put T) :=
  T.F_Form_put.ok sc_Form_put (len_Form_put T) fun cdv A outer s H vs Q E hr h => ⟨t_Form_put T.z.2 T, (pss_cons (ps_expr (pe_call (ok_check_letter T) (hr.mono (by decide)) (by rfl) T.m_check_letter T.F_check_letter.kp (b_check_letter T) .nil pass0 (pa_cons (pv 1) pa_nil)))
      (pss_cons (ps_expr (pe_call (ok_check_form T) (hr.mono (by decide)) (by rfl) T.m_check_form T.F_check_form.kp (b_check_form T) .nil pass0 (pa_cons (pv 2) pa_nil)))
      (pss_cons (ps_set (i := 3) sc_Form_put.nd rfl (Or.inl rfl) (pe_lst (pa_cons (pe_call (ok_made T) (hr.mono (by decide)) (by rfl) T.m_made T.F_made.kp (b_made T) .nil pass0 (pa_cons (pe_dispZ hr.units0 (pe_tupZ pa_nil) pe_int) (pa_cons pe_int pa_nil))) pa_nil)))
      (pss_cons (ps_for PassesOwn.never rfl (pi_range1 (by rfl) T.n_range (pa_cons (pe_callB (cr_max rfl) (by rfl) T.n_max (by decide +kernel) (pa_cons (pe_op op_cat (pe_lst (pa_cons pe_int pa_nil)) (pe_lc (own := [("product", 5)]) (g := (gName 5)) (tt := tYes) (te := tCntZ (tVar 5) (tVar 1)) rfl sc_Form_put.nd (pi_keysZ (pe_fld (pv 0) rfl)) (blkOk_by (own := [("product", 5)]) (N := ["self", "name", "other", "powers", "turn", "product", "found", "many", "rest", "one"]) (sc := defScope s_Form_put) (by decide +kernel)) (fun _ _ _ _ _ => (pg_name (i := 5) sc_Form_put.nd rfl (Or.inl rfl))) (fun _ _ _ _ _ => pts_nil) (fun _ _ _ _ _ => (pe_cntZ (pv 5) (pv 1) ⟨by rfl, by rfl, by rfl, by rfl⟩)))) pa_nil)) pa_nil)) (pg_name (i := 4) sc_Form_put.nd rfl (Or.inl rfl)) (pss_one (ps_expr (pe_bm PySem.F.plainAttrs_list PySem.F.slot_list_append PySem.F.type_list_append mt_append (pv 3) (pa_cons (pe_op (op_binO (op := .Mult) rfl T.S_Form T.M_Form___mul (ok_Form___mul T) (hr.mono (by decide)) (b_Form___mul T) pass0) (pe_ix ix_list (pv 3) (pe_un un_neg pe_int) (fun _ _ => rfl)) (pv 2)) pa_nil)))))
      (pss_cons (ps_set (i := 6) sc_Form_put.nd rfl (Or.inl rfl) (pe_call (ok_made T) (hr.mono (by decide)) (by rfl) T.m_made T.F_made.kp (b_made T) .nil pass0 (pa_cons (pe_frzV pe_dnewK) (pa_cons pe_int pa_nil))))
      (pss_cons (ps_for PassesOwn.never rfl (pi_itemsZ (pe_fld (pv 0) rfl)) (pg_tup rfl (pgs_cons (pg_name (i := 5) sc_Form_put.nd rfl (Or.inl rfl)) (pgs_cons (pg_name (i := 7) sc_Form_put.nd rfl (Or.inl rfl)) pgs_nil))) (pss_cons (ps_set (i := 8) sc_Form_put.nd rfl (Or.inl rfl) (pe_callTy cr_tupZ (by rfl) T.n_tuple (by decide +kernel) (pa_cons (pe_lc (own := [("one", 9)]) (g := (gName 9)) (tt := tTest (tOp (rNeX K) (tVar 9) (tVar 1))) (te := tVar 9) rfl sc_Form_put.nd (pi_tup (pv 5)) (blkOk_by (own := [("one", 9)]) (N := ["self", "name", "other", "powers", "turn", "product", "found", "many", "rest", "one"]) (sc := defScope s_Form_put) (by decide +kernel)) (fun _ _ _ _ _ => (pg_name (i := 9) sc_Form_put.nd rfl (Or.inl rfl))) (fun _ _ _ _ _ => (pts_one (pt_cmpR (op_neX hr.units) (pv 9) (pv 1) (nomark _)))) (fun _ _ _ _ _ => (pv 9))) pa_nil)))
      (pss_one (ps_set (i := 6) sc_Form_put.nd rfl (Or.inl rfl) (pe_op (op_binO (op := .Add) rfl T.S_Form T.M_Form___add (ok_Form___add T) (hr.mono (by decide)) (b_Form___add T) pass0) (pv 6) (pe_op (op_binO (op := .Mult) rfl T.S_Form T.M_Form___mul (ok_Form___mul T) (hr.mono (by decide)) (b_Form___mul T) pass0) (pe_call (ok_made T) (hr.mono (by decide)) (by rfl) T.m_made T.F_made.kp (b_made T) .nil pass0 (pa_cons (pe_dispZ hr.units0 (pv 8) (pv 7)) (pa_cons (pe_fld (pv 0) rfl) pa_nil))) (pe_ix ix_list (pv 3) (pe_op op_sub (pe_callB call_lenA (by rfl) T.n_len (by decide +kernel) (pa_cons (pv 5) pa_nil)) (pe_callB call_lenA (by rfl) T.n_len (by decide +kernel) (pa_cons (pv 8) pa_nil))) (fun _ _ => rfl))))))))
      (pss_one (ps_ret (pv 6))))))))), rd_Form_put T vs H Q E h⟩
end
end CP

namespace CP
open PySem L2
section
variable {P : Program} {w : World} {K : PySem.W.Frag} {mg : Str → Option Value} {base : Heap}
theorem negZ_acc (rs : List Tm) : (rs.filterMap fun r => (some (0 - r.2)).map fun n => (r.1, n)) = rs.map fun r => (r.1, 0 - r.2) := by
  rw [show (fun r : Tm => (some (0 - r.2)).map fun n => (r.1, n)) = fun r => some ((r.1, 0 - r.2) : Tm) from rfl]
  exact List.filterMap_eq_map ▸ rfl
def sp_Form___neg (T : Txt K mg) : Sp := fun vs H Q _ => match vs with
  | [.ref o] => ∃ f, FormZ T.z T.a_Form H o f ∧ f.1.length ≤ 1000000 ∧ ∀ p H', H p = none → Same H H' → FormZ T.z T.a_Form H' p (negM f) → Q (.ref p) H'
  | _ => False
def t_Form___neg (w : World) (T : Txt K mg) : TS := tRet (tMake T.a_Form (sp_Form___init T) [] E0 (tCons (tDgZ T.z (iItemsZ (tFld K (tVar 0) "rows")) (gTup K 2 (gCons (gName 1) (gCons (gName 2) gNil))) (tYes) (tVar 1) (tOp oSub (tC (.int 0)) (tVar 2)) [1, 2]) (tCons (tFld K (tVar 0) "under") (tNil))))
theorem len_Form___neg (T : Txt K mg) : ∀ (vs : List V) (H : Hp) (Q : VK) (E : XK), sp_Form___neg T vs H Q E → vs.length = (["self"] : List Str).length := by
  intro vs H Q E h
  unfold sp_Form___neg at h
  split at h
  all_goals first | rfl | exact h.elim
theorem rd_Form___neg (T : Txt K mg) (vs : List V) (H : Hp) (Q : VK) (E : XK) (h : sp_Form___neg T vs H Q E) : t_Form___neg w T { nx := fun _ H' => Q .non H', rt := Q } (start ["self", "product", "many"] vs) H := by
  match vs, h with
  | [.ref o], h =>
  obtain ⟨f, ⟨dx, d, ho, hd⟩, few, q⟩ := h
  have sz : sizeLine = 16777216 := rfl
  have ndT := hd.nd
  obtain ⟨od, hd⟩ := hd
  unfold t_Form___neg
  walk_at "st"
  repeat walk_at "w"
  refine r_dgZ ?_
  refine r_iItemsZ ?_
  repeat walk_at "w"
  refine r_fget ho T.c_Form T.n_Form_rows (by rfl) ?_
  refine ⟨T.z, d, od, _, rfl, hd, fun D D0 => dg_pz (f.1.map fun r => (some (0 - r.2)).map V.int) ndT D0 hd (by rw [rowsT_len, List.length_map]) (by rw [rowsT_len]; omega) (fun i k v o t q H2 H3 N hk ho s2 t0 hq s3 ht no yes => ?_) fun H2 s2 hD => ?_⟩
  · obtain ⟨r, hr, rfl, rfl⟩ := rowsT_get hk
    have ho : o = (some (0 - r.2)).map V.int := by
      rw [List.getElem?_map, hr] at ho
      exact (Option.some.inj ho).symm
    repeat walk_at "w"
    refine ⟨rfl, r_yes (if_t ?_)⟩
    repeat walk_at "w"
    exact yes _ ho H3 (Same.refl _)
  rw [acc_rows, negZ_acc] at hD
  repeat walk_at "w"
  refine r_fget (CP.Same.to s2 ho) T.c_Form T.n_Form_under (by rfl) ?_
  refine form_new T fun o dx H10 o0 s10 ho => ?_
  exact q o H10 (L2.Same.free s2 o0) (s2.trans s10) ⟨dx, D, ho, hD.mono s10⟩

theorem ok_Form___neg (T : Txt K mg) : FnOk T.z.1 T.z.2 K mg base CX0 3 T.a_Form___neg T.fd_Form___neg ["self"] (sp_Form___neg T) :=
  T.F_Form___neg.ok sc_Form___neg (len_Form___neg T) fun cdv A outer s H vs Q E hr h => ⟨t_Form___neg T.z.2 T, (pss_one (ps_ret (pe_make T.k_Form (ok_Form___init T) (hr.mono (by decide)) (by rfl) T.m_Form (b_Form___init T) .nil pass0 (pa_cons (pe_dgZ (own := [("product", 1), ("many", 2)]) (g := (gTup K 2 (gCons (gName 1) (gCons (gName 2) gNil)))) (tt := tYes) (tk := tVar 1) (tv := tOp oSub (tC (.int 0)) (tVar 2)) hr.units0 rfl sc_Form___neg.nd (pi_itemsZ (pe_fld (pv 0) rfl)) (blkOk_by (own := [("product", 1), ("many", 2)]) (N := ["self", "product", "many"]) (sc := defScope s_Form___neg) (by decide +kernel)) (fun _ _ _ _ _ => (pg_tup rfl (pgs_cons (pg_name (i := 1) sc_Form___neg.nd rfl (Or.inl rfl)) (pgs_cons (pg_name (i := 2) sc_Form___neg.nd rfl (Or.inl rfl)) pgs_nil)))) (fun _ _ _ _ _ => pts_nil) (fun _ _ _ _ _ => (pv 1)) (fun _ _ _ _ _ => (pe_op op_sub pe_int (pv 2)))) (pa_cons (pe_fld (pv 0) rfl) pa_nil))))), rd_Form___neg T vs H Q E h⟩
end
end CP

namespace CP
open PySem L2
section
variable {P : Program} {w : World} {K : PySem.W.Frag} {mg : Str → Option Value} {base : Heap}
def sp_Form___sub (T : Txt K mg) : Sp := fun vs H Q _ => match vs with
  | [.ref o, v] => ∃ f g, FormZ T.z T.a_Form H o f ∧ OpZ T.z T.a_Form H v g ∧ FOk f ∧ FOk g ∧ ∀ p H', H p = none → Same H H' → FormZ T.z T.a_Form H' p (addM f (negM g)) → Q (.ref p) H'
  | _ => False
theorem FOk.negM {f : Fm} (fo : FOk f) : FOk (negM f) := by
  refine ⟨?_, ?_, fun r hr => ?_, fun r hr => ?_, fo.pos⟩
  · show ((f.1.map fun r => (r.1, 0 - r.2)).map (·.1)).Nodup
    rw [List.map_map]
    exact fo.nd
  · show (f.1.map fun r => (r.1, 0 - r.2)).length ≤ 1000
    rw [List.length_map]; exact fo.few
  · obtain ⟨s, hs, rfl⟩ := List.mem_map.mp hr
    exact fo.lets s hs
  · obtain ⟨s, hs, rfl⟩ := List.mem_map.mp hr
    have := fo.num s hs
    have e : (0 - s.2).natAbs = s.2.natAbs := by omega
    exact e ▸ this
def t_Form___sub (w : World) (T : Txt K mg) : TS := tRet (tOp (rBinO T.a_Form (sp_Form___add T) E0) (tVar 0) (tUn (rNegO T.a_Form (sp_Form___neg T) E0) (tCall (sp_as_form T) [] E0 (tCons (tVar 1) (tNil)))))
theorem len_Form___sub (T : Txt K mg) : ∀ (vs : List V) (H : Hp) (Q : VK) (E : XK), sp_Form___sub T vs H Q E → vs.length = (["self", "other"] : List Str).length := by
  intro vs H Q E h
  unfold sp_Form___sub at h
  split at h
  all_goals first | rfl | exact h.elim
theorem rd_Form___sub (T : Txt K mg) (vs : List V) (H : Hp) (Q : VK) (E : XK) (h : sp_Form___sub T vs H Q E) : t_Form___sub w T { nx := fun _ H' => Q .non H', rt := Q } (start ["self", "other"] vs) H := by
  match vs, h with
  | [.ref o, v], h =>
  obtain ⟨f, g, hf, hg, fo, go, q⟩ := h
  unfold t_Form___sub
  walk_at "st"
  repeat walk_at "w"
  refine ⟨g, hg, fun u H0 s0 hu => ?_⟩
  obtain ⟨dy, e, hu', _⟩ := id hu
  refine ⟨u, dy, _, rfl, hu', g, hu, by have := go.few; omega, fun p H1 p0 s1 hp => ?_⟩
  have S1 := s0.trans s1
  obtain ⟨dx, _, ho', _⟩ := hf.mono S1
  obtain ⟨dz, _, hp', _⟩ := id hp
  exact ⟨o, p, dx, dz, _, _, rfl, rfl, ho', hp', f, negM g, hf.mono S1, .inl ⟨p, rfl, hp⟩, fo, go.negM, fun w H2 w0 s2 hw => ⟨w, rfl, q w H2 (L2.Same.free S1 w0) (S1.trans s2) hw⟩⟩

theorem ok_Form___sub (T : Txt K mg) : FnOk T.z.1 T.z.2 K mg base CX0 7 T.a_Form___sub T.fd_Form___sub ["self", "other"] (sp_Form___sub T) :=
  T.F_Form___sub.ok sc_Form___sub (len_Form___sub T) fun cdv A outer s H vs Q E hr h => ⟨t_Form___sub T.z.2 T, (pss_one (ps_ret (pe_op (op_binO (op := .Add) rfl T.S_Form T.M_Form___add (ok_Form___add T) (hr.mono (by decide)) (b_Form___add T) pass0) (pv 0) (pe_un (un_negO T.M_Form___neg (ok_Form___neg T) (hr.mono (by decide)) (b_Form___neg T) pass0) (pe_call (ok_as_form T) (hr.mono (by decide)) (by rfl) T.m_as_form T.F_as_form.kp (b_as_form T) .nil pass0 (pa_cons (pv 1) pa_nil)))))), rd_Form___sub T vs H Q E h⟩
end
end CP

namespace CP
open PySem L2
section
variable {P : Program} {w : World} {K : PySem.W.Frag} {mg : Str → Option Value} {base : Heap}
def sp_Form_over (T : Txt K mg) : Sp := fun vs H Q _ => match vs with
  | [.ref o, .int n] => ∃ f, FormZ T.z T.a_Form H o f ∧ FOk f ∧ n ≠ 0 ∧ n.natAbs < 2 ^ 190 ∧ ∀ p H', H p = none → Same H H' → FormZ T.z T.a_Form H' p (overM f n) → Q (.ref p) H'
  | _ => False
theorem if_nf' {n : Int} (n0 : n ≠ 0) {X Y : Prop} (q : Y) : if decide (n = 0) = true then X else Y := by
  rw [if_neg (by simpa using n0)]
  exact q
@[reducible] def t_Form_over_0 (w : World) (T : Txt K mg) : TS := tRet (tCall (sp_made T) [] E0 (tCons (tFld K (tVar 2) "rows") (tCons (tOp oMul (tFld K (tVar 0) "under") (tCB oAbs (tCons (tVar 1) (tNil)))) (tNil))))
@[reducible] def t_Form_over_1 (w : World) (T : Txt K mg) : TS := tSeq (tAsg (tIf (tTest (tOp oGt (tVar 1) (tC (.int 0)))) (tVar 0) (tUn (rNegO T.a_Form (sp_Form___neg T) E0) (tVar 0))) (gName 2)) (t_Form_over_0 w T)
def t_Form_over (w : World) (T : Txt K mg) : TS := tSeq (tIfS (tOr (tNot (tB (tCall (sp_is_whole T) [] E0 (tCons (tVar 1) (tNil))))) (tTest (tOp rEq (tVar 1) (tC (.int 0))))) (tNever) (tNext)) (t_Form_over_1 w T)
theorem len_Form_over (T : Txt K mg) : ∀ (vs : List V) (H : Hp) (Q : VK) (E : XK), sp_Form_over T vs H Q E → vs.length = (["self", "divisor"] : List Str).length := by
  intro vs H Q E h
  unfold sp_Form_over at h
  split at h
  all_goals first | rfl | exact h.elim
theorem rd_Form_over (T : Txt K mg) (vs : List V) (H : Hp) (Q : VK) (E : XK) (h : sp_Form_over T vs H Q E) : t_Form_over w T { nx := fun _ H' => Q .non H', rt := Q } (start ["self", "divisor", "turned"] vs) H := by
  match vs, h with
  | [.ref o, .int n], h =>
  obtain ⟨f, hf, fo, n0, nk, q⟩ := h
  obtain ⟨dx, d, ho, hd⟩ := id hf
  have sz : sizeLine = 16777216 := rfl
  unfold t_Form_over
  walk_at "st"
  repeat walk_at "w"
  refine ⟨"int", .inl tk_int, ?_⟩
  rw [show ("int" == "int") = true by decide]
  repeat walk_at "w"
  refine if_nf' n0 ?_
  repeat walk_at "w"
  have fp := fo.pos
  have fin : ∀ {H1 : Hp} {o1 : Addr}, Same H H1 → FormZ T.z T.a_Form H1 o1 (if 0 < n then f else negM f) → ∃ dx1 d1, H1 o1 = some (.ins T.a_Form dx1 [("rows", .ref d1), ("under", .int (if 0 < n then f else negM f).2)]) ∧ H1 o = some (.ins T.a_Form dx [("rows", .ref d), ("under", .int f.2)]) ∧ sp_made T ([.ref d1, .int (f.2 * if n < 0 then -n else n)] ++ []) H1 Q E0 := fun {H1 o1} s1 h1 => by
    have go : FOk (if 0 < n then f else negM f) := by
      split
      · exact fo
      · exact fo.negM
    obtain ⟨dx1, d1, ho1, hd1⟩ := h1
    have ea : (if n < 0 then -n else n) = (n.natAbs : Int) := by split <;> omega
    rw [ea]
    have gf := go.few
    refine ⟨dx1, d1, ho1, CP.Same.to s1 ho, _, hd1, by omega, Int.mul_pos fp.1 (by omega), ?_, fun p H2 p0 s2 hp => ?_⟩
    · have c : f.2 * (n.natAbs : Int) < 2 ^ 200 * 2 ^ 190 := Int.mul_lt_mul fp.2 (by omega) (by omega) (by decide)
      have e : (2 : Int) ^ 200 * 2 ^ 190 < 2 ^ 400 := by decide +kernel
      omega
    · exact q p H2 (L2.Same.free s1 p0) (s1.trans s2) hp
  have nw : (if n < 0 then -n else n) = (n.natAbs : Int) := by split <;> omega
  refine if_d (fun k => ?_) fun k => ?_
  · obtain ⟨dx1, d1, ho1, ho2, fin⟩ := fin (o1 := o) (Same.refl _) (by rw [if_pos k]; exact hf)
    repeat walk_at "w"
    refine r_fget ho1 T.c_Form T.n_Form_rows (by rfl) ?_
    repeat walk_at "w"
    refine r_fget ho2 T.c_Form T.n_Form_under (by rfl) ?_
    repeat walk_at "w"
    exact fin
  · repeat walk_at "w"
    refine ⟨o, dx, _, rfl, ho, f, hf, by have := fo.few; omega, fun p H2 p0 s2 hp => ?_⟩
    obtain ⟨dx1, d1, ho1, ho2, fin⟩ := fin (o1 := p) s2 (by rw [if_neg k]; exact hp)
    repeat walk_at "w"
    refine r_fget ho1 T.c_Form T.n_Form_rows (by rfl) ?_
    repeat walk_at "w"
    refine r_fget ho2 T.c_Form T.n_Form_under (by rfl) ?_
    repeat walk_at "w"
    exact fin

theorem ok_Form_over (T : Txt K mg) : FnOk T.z.1 T.z.2 K mg base CX0 5 T.a_Form_over T.fd_Form_over ["self", "divisor"] (sp_Form_over T) :=
  T.F_Form_over.ok sc_Form_over (len_Form_over T) fun cdv A outer s H vs Q E hr h => ⟨t_Form_over T.z.2 T, (pss_cons (ps_if (PW.pt (pw_or (pt_not (pt_val (pe_call (ok_is_whole T) (hr.mono (by decide)) (by rfl) T.m_is_whole T.F_is_whole.kp (b_is_whole T) .nil pass0 (pa_cons (pv 1) pa_nil)))) (pw_or1 (pt_cmpR op_eq (pv 1) pe_int (nomark _))))) (pss_one ps_never) pss_nil)
      (pss_cons (ps_set (i := 2) sc_Form_over.nd rfl (Or.inl rfl) (pe_ifExp (pt_cmpR op_gt (pv 1) pe_int (nomark _)) (pv 0) (pe_un (un_negO T.M_Form___neg (ok_Form___neg T) (hr.mono (by decide)) (b_Form___neg T) pass0) (pv 0))))
      (pss_one (ps_ret (pe_call (ok_made T) (hr.mono (by decide)) (by rfl) T.m_made T.F_made.kp (b_made T) .nil pass0 (pa_cons (pe_fld (pv 2) rfl) (pa_cons (pe_op op_mulW (pe_fld (pv 0) rfl) (pe_callB call_absA (by rfl) T.n_abs (by decide +kernel) (pa_cons (pv 1) pa_nil))) pa_nil))))))), rd_Form_over T vs H Q E h⟩
end
end CP

namespace CP
open PySem L2
section
variable {P : Program} {w : World} {K : PySem.W.Frag} {mg : Str → Option Value} {base : Heap}
/-- the greatest number of letters in a term -/
def degM (f : Fm) : Nat := maxL (f.1.map fun r => r.1.length)
def sp_Form_degree (T : Txt K mg) : Sp := fun vs H Q _ => match vs with
  | [.ref o] => ∃ f, FormZ T.z T.a_Form H o f ∧ f.1.length ≤ 100000 ∧ (∀ r ∈ f.1, r.1.length ≤ 100000) ∧ ∀ H', Same H H' → Q (.int (degM f : Nat)) H'
  | _ => False
def t_Form_degree (w : World) (T : Txt K mg) : TS := tRet (tCB (rMax K) (tCons (tOp rCat (tLst (tCons (tC (.int 0)) (tNil))) (tLc (iKeysZ (tFld K (tVar 0) "rows")) (gName 1) (tYes) (tCB (rLenA K) (tCons (tVar 1) (tNil))) [1])) (tNil)))
theorem len_Form_degree (T : Txt K mg) : ∀ (vs : List V) (H : Hp) (Q : VK) (E : XK), sp_Form_degree T vs H Q E → vs.length = (["self"] : List Str).length := by
  intro vs H Q E h
  unfold sp_Form_degree at h
  split at h
  all_goals first | rfl | exact h.elim
theorem rd_Form_degree (T : Txt K mg) (vs : List V) (H : Hp) (Q : VK) (E : XK) (h : sp_Form_degree T vs H Q E) : t_Form_degree w T { nx := fun _ H' => Q .non H', rt := Q } (start ["self", "product"] vs) H := by
  match vs, h with
  | [.ref o], h =>
  obtain ⟨f, ⟨dx, d, ho, hd⟩, few, lets, q⟩ := h
  have sz : sizeLine = 16777216 := rfl
  obtain ⟨od, hd⟩ := hd
  unfold t_Form_degree
  walk_at "st"
  repeat walk_at "w"
  rename_i p H1 p0 s1 hp
  refine r_iKeysZ ?_
  repeat walk_at "w"
  refine r_fget (CP.Same.to s1 ho) T.c_Form T.n_Form_rows (by rfl) ?_
  refine ⟨T.z, d, od, _, rfl, hd.keep (.of s1), fun D D0 => lc_kz (f.1.map fun r => V.int (r.1.length : Nat)) D0 (hd.keep (.of s1)) (by rw [rowsT_len, List.length_map]) (by rw [rowsT_len]; omega) (fun i k v y q H2 N hk hy s2 hq yes => ?_) fun H2 s2 hD => ?_⟩
  · obtain ⟨r, hr, rfl, rfl⟩ := rowsT_get hk
    have hy : y = .int (r.1.length : Nat) := by
      rw [List.getElem?_map, hr] at hy
      exact (Option.some.inj hy).symm
    subst hy
    rw [keyT_V] at hq
    repeat walk_at "w"
    refine ⟨rfl, r_yes (if_t ?_)⟩
    repeat walk_at "w"
    refine r_lenT hq.sq ?_
    rw [strL_len]
    exact yes H2 (Same.refl _)
  · refine r_cat (CP.Same.to s2 hp) hD (by rw [List.length_map]; show 1 + _ ≤ _; omega) fun l H3 l0 s3 hl => ?_
    repeat walk_at "w"
    refine r_maxL (l := f.1.map fun r => r.1.length) (by rw [hl, List.map_map]; rfl) ?_
    exact q H3 (s1.trans (s2.trans s3))

theorem ok_Form_degree (T : Txt K mg) : FnOk T.z.1 T.z.2 K mg base CX0 1 T.a_Form_degree T.fd_Form_degree ["self"] (sp_Form_degree T) :=
  T.F_Form_degree.ok sc_Form_degree (len_Form_degree T) fun cdv A outer s H vs Q E hr h => ⟨t_Form_degree T.z.2 T, (pss_one (ps_ret (pe_callB (cr_max rfl) (by rfl) T.n_max (by decide +kernel) (pa_cons (pe_op op_cat (pe_lst (pa_cons pe_int pa_nil)) (pe_lc (own := [("product", 1)]) (g := (gName 1)) (tt := tYes) (te := tCB (rLenA K) (tCons (tVar 1) (tNil))) rfl sc_Form_degree.nd (pi_keysZ (pe_fld (pv 0) rfl)) (blkOk_by (own := [("product", 1)]) (N := ["self", "product"]) (sc := defScope s_Form_degree) (by decide +kernel)) (fun _ _ _ _ _ => (pg_name (i := 1) sc_Form_degree.nd rfl (Or.inl rfl))) (fun _ _ _ _ _ => pts_nil) (fun _ _ _ _ _ => (pe_callB call_lenA (by rfl) T.n_len (by decide +kernel) (pa_cons (pv 1) pa_nil))))) pa_nil)))), rd_Form_degree T vs H Q E h⟩
end
end CP

namespace CP
open PySem L2
section
/-! the fractions of law_fractions_right, by their mirror -/
def nF3 : Fm := ([(["n"], 1)], 1)
def mF3 : Fm := ([(["m"], 1)], 1)
def wF3 (n : Int) : Fm := madeM [([], n)] 1
def sqF3 : Fm := addM (mulM nF3 nF3) (overM mF3 3)
def haF3 : Fm := putM sqF3 "n" (overM mF3 2)
theorem fr_half : termsM haF3 = ([(1, 3, ["m"]), (1, 4, ["m", "m"])] : List (Int × Int × List Str)) ∧ letsM haF3 = (["m"] : List Str) ∧ degM haF3 = 2 ∧ eqM haF3 (addM (overM (mulM mF3 mF3) 4) (overM mF3 3)) = true ∧ termsM sqF3 = ([(1, 3, ["m"]), (1, 1, ["n", "n"])] : List (Int × Int × List Str)) := by decide +kernel
theorem fr_put : termsM (putM (addM nF3 (negM mF3)) "n" mF3) = [] ∧ eqM (putM (overM nF3 2) "n" (mulM mF3 (wF3 2))) mF3 = true := by decide +kernel
theorem fr_far : termsM (overM nF3 100000000000000000000) = ([(1, 100000000000000000000, ["n"])] : List (Int × Int × List Str)) ∧ eqM (overM (mulM nF3 (wF3 100000000000000000000)) 10000000000000000000) (mulM nF3 (wF3 10)) = true := by decide +kernel
theorem fr_neg : termsM (overM nF3 (-3)) = ([(-1, 3, ["n"])] : List (Int × Int × List Str)) ∧ eqM (putM (addM nF3 (negM nF3)) "n" mF3) (addM nF3 (negM nF3)) = true := by decide +kernel

end
end CP

namespace CP
open PySem L2
section
/-! a form that stands for a letter: how great, what it is worth -/
def mw (B : Nat) (rs : List Tm) : Nat := (rs.map fun r => r.2.natAbs * B ^ r.1.length).sum
theorem mw_nil (B : Nat) : mw B [] = 0 := rfl
theorem mw_cons (B : Nat) (r : Tm) (rs : List Tm) : mw B (r :: rs) = r.2.natAbs * B ^ r.1.length + mw B rs := by
  unfold mw
  rw [List.map_cons, List.sum_cons]
theorem mw_put (B : Nat) (p : List Str) (n : Int) : ∀ rs : List Tm, mw B (putT rs p n) + (getT rs p).natAbs * B ^ p.length = mw B rs + n.natAbs * B ^ p.length
  | [] => by
    show mw B [(p, n)] + (0 : Int).natAbs * _ = 0 + _
    rw [mw_cons, mw_nil, Int.natAbs_zero, Nat.zero_mul]
    show n.natAbs * B ^ p.length + 0 + 0 = _
    omega
  | r :: rs => by
    unfold putT getT
    by_cases e : r.1 = p
    · subst e
      rw [if_pos rfl, if_pos rfl, mw_cons, mw_cons]
      show n.natAbs * B ^ r.1.length + _ + _ = _
      omega
    · rw [if_neg e, if_neg e, mw_cons, mw_cons]
      have := mw_put B p n rs
      omega
theorem mw_putS (B : Nat) (p : List Str) (m : Int) (rs : List Tm) : mw B (putT rs p (getT rs p + m)) ≤ mw B rs + m.natAbs * B ^ p.length := by
  have h := mw_put B p (getT rs p + m) rs
  have a : (getT rs p + m).natAbs * B ^ p.length ≤ ((getT rs p).natAbs + m.natAbs) * B ^ p.length := Nat.mul_le_mul_right _ (Int.natAbs_add_le _ _)
  rw [Nat.add_mul] at a
  omega
theorem mw_kept (B : Nat) : ∀ rs : List Tm, mw B (keptM rs) ≤ mw B rs
  | [] => Nat.le_refl _
  | r :: rs => by
    have i := mw_kept B rs
    unfold keptM at *
    rw [List.filter_cons, mw_cons]
    split
    · rw [mw_cons]; omega
    · omega
theorem mw_ediv (B : Nat) (g : Int) : ∀ rs : List Tm, mw B (rs.map fun r => (r.1, r.2 / g)) ≤ mw B rs
  | [] => Nat.le_refl _
  | r :: rs => by
    have i := mw_ediv B g rs
    rw [List.map_cons, mw_cons, mw_cons]
    have : (r.2 / g).natAbs * B ^ r.1.length ≤ r.2.natAbs * B ^ r.1.length := Nat.mul_le_mul_right _ (Int.natAbs_ediv_le_natAbs ..)
    show (r.2 / g).natAbs * B ^ r.1.length + _ ≤ _
    omega
theorem mw_made (B : Nat) (rs : List Tm) (u : Int) : mw B (madeM rs u).1 ≤ mw B rs := Nat.le_trans (mw_ediv B _ _) (mw_kept B rs)
theorem mw_mulRow (B : Nat) (a : Tm) : ∀ (gs acc : List Tm), mw B (mulRow gs acc a) ≤ mw B acc + a.2.natAbs * B ^ a.1.length * mw B gs
  | [], acc => by unfold mulRow; rw [List.foldl_nil]; omega
  | b :: gs, acc => by
    have i := mw_mulRow B a gs (mulStep a acc b)
    have j := mw_putS B (srt (a.1 ++ b.1)) (a.2 * b.2) acc
    unfold mulRow at *
    rw [List.foldl_cons, mw_cons, Nat.mul_add]
    rw [Int.natAbs_mul, srt_len, List.length_append, Nat.pow_add] at j
    have e : a.2.natAbs * b.2.natAbs * (B ^ a.1.length * B ^ b.1.length) = a.2.natAbs * B ^ a.1.length * (b.2.natAbs * B ^ b.1.length) := by
      generalize B ^ a.1.length = x
      generalize B ^ b.1.length = y
      grind
    rw [e] at j
    unfold mulStep at i
    unfold mulStep
    omega
theorem mw_mulR (B : Nat) (gs : List Tm) : ∀ (fs acc : List Tm), mw B (fs.foldl (mulRow gs) acc) ≤ mw B acc + mw B fs * mw B gs
  | [], acc => by rw [List.foldl_nil]; omega
  | a :: fs, acc => by
    have i := mw_mulR B gs fs (mulRow gs acc a)
    have j := mw_mulRow B a gs acc
    rw [List.foldl_cons, mw_cons, Nat.add_mul]
    omega
theorem mw_addS (B : Nat) (n : Int) : ∀ (rs acc : List Tm), mw B (rs.foldl (addS n) acc) ≤ mw B acc + n.natAbs * mw B rs
  | [], acc => by rw [List.foldl_nil]; omega
  | r :: rs, acc => by
    have i := mw_addS B n rs (addS n acc r)
    have j := mw_putS B r.1 (r.2 * n) acc
    rw [Int.natAbs_mul] at j
    have e : r.2.natAbs * n.natAbs * B ^ r.1.length = n.natAbs * (r.2.natAbs * B ^ r.1.length) := by
      generalize B ^ r.1.length = x
      grind
    rw [e] at j
    rw [List.foldl_cons, mw_cons, Nat.mul_add]
    unfold addS at i
    unfold addS
    omega
theorem mw_times (B : Nat) (n : Int) : ∀ rs : List Tm, mw B (rs.map fun r => (r.1, r.2 * n)) = n.natAbs * mw B rs
  | [] => rfl
  | r :: rs => by
    rw [List.map_cons, mw_cons, mw_cons, mw_times B n rs, Nat.mul_add]
    show (r.2 * n).natAbs * _ + _ = _
    rw [Int.natAbs_mul]
    generalize B ^ r.1.length = x
    grind
theorem mw_neg (B : Nat) : ∀ rs : List Tm, mw B (rs.map fun r => (r.1, 0 - r.2)) = mw B rs
  | [] => rfl
  | r :: rs => by
    rw [List.map_cons, mw_cons, mw_cons, mw_neg B rs]
    show (0 - r.2).natAbs * _ + _ = _
    rw [show (0 - r.2).natAbs = r.2.natAbs by omega]
theorem mw_add (B : Nat) {f g : Fm} (nd : (f.1.map (·.1)).Nodup) : mw B (addM f g).1 ≤ g.2.natAbs * mw B f.1 + f.2.natAbs * mw B g.1 := by
  refine Nat.le_trans (mw_made B _ _) ?_
  unfold addR
  rw [times_eq _ _ _ nd (by simp), List.nil_append]
  refine Nat.le_trans (mw_addS B _ _ _) ?_
  rw [mw_times]
  exact Nat.le_refl _
theorem mw_mul (B : Nat) (f g : Fm) : mw B (mulM f g).1 ≤ mw B f.1 * mw B g.1 := by
  refine Nat.le_trans (mw_made B _ _) ?_
  have := mw_mulR B g.1 f.1 []
  rw [mw_nil, Nat.zero_add] at this
  exact this
theorem mw_over (B : Nat) (f : Fm) (n : Int) : mw B (overM f n).1 ≤ mw B f.1 := by
  refine Nat.le_trans (mw_made B _ _) ?_
  split
  · exact Nat.le_refl _
  · show mw B (f.1.map fun r => (r.1, 0 - r.2)) ≤ _
    rw [mw_neg]
    exact Nat.le_refl _
/-- trees of two steps at most: terms, letters, norm, divisor -/
theorem tr_fq3 {L : List Str} : ∀ {n : Nat} {t : Tr}, TrOk L 7 n t → n ≤ 2 → Fq L (2 ^ n) (2 ^ n) (7 * 2 ^ n) (4 * 2 ^ n) (formM t)
  | n, .num i, z, _ => by
    have z : i.natAbs < 2 ^ 7 := by cases n <;> exact z
    have o := one_le_two (n := n)
    exact (Fq.num (L := L) i z).up (fun _ h => h) o (Nat.zero_le _) (by omega) (by omega)
  | n, .let w, z, _ => by
    have z : w ∈ L := by cases n <;> exact z
    have o := one_le_two (n := n)
    exact (Fq.one z).up (fun _ h => h) o o (by omega) (by omega)
  | 0, .div a i, z, _ => z.elim
  | 0, .op _ a b, z, _ => z.elim
  | n + 1, .div a i, z, h => by
    have f := tr_fq3 z.2.2 (by omega)
    have o := one_le_two (n := n)
    have e : 2 ^ (n + 1) = 2 ^ n * 2 := Nat.pow_succ ..
    have g := Fq.over (n := i) (k := 4) f (by have := z.1; omega) (by have := z.1; have := z.2.1; omega)
    exact g.up (fun _ h => h) (by omega) (by omega) (by omega) (by omega)
  | n + 1, .op o a b, z, h => by
    have f := tr_fq3 z.1 (by omega)
    have g := tr_fq3 z.2 (by omega)
    have k := one_le_two (n := n)
    have e : 2 ^ (n + 1) = 2 ^ n * 2 := Nat.pow_succ ..
    have m : 2 ^ n * 2 ^ n ≤ 2 ^ n * 2 := Nat.mul_le_mul_left _ (by
      have : n = 0 ∨ n = 1 := by omega
      rcases this with rfl | rfl <;> decide)
    cases o with
    | times => exact (Fq.mul f g).up (fun _ h => h) (by omega) (by omega) (by omega) (by omega)
    | minus => exact (Fq.add (b := 7 * 2 ^ (n + 1)) f g.neg (by omega) (by omega)).up (fun _ h => h) (by omega) (by omega) (Nat.le_refl _) (by omega)
    | plus => exact (Fq.add (b := 7 * 2 ^ (n + 1)) f g (by omega) (by omega)).up (fun _ h => h) (by omega) (by omega) (Nat.le_refl _) (by omega)
theorem tr_mw {L : List Str} {B : Nat} (hB : 2 ^ 7 ≤ B) : ∀ {n : Nat} {t : Tr}, TrOk L 7 n t → n ≤ 2 → mw B (formM t).1 ≤ B ^ 2 ^ n
  | n, .num i, z, _ => by
    have z : i.natAbs < 2 ^ 7 := by cases n <;> exact z
    have o := one_le_two (n := n)
    have b : B ^ 1 ≤ B ^ 2 ^ n := Nat.pow_le_pow_right (by omega) o
    refine Nat.le_trans (mw_made B _ _) ?_
    rw [mw_cons, mw_nil]
    show i.natAbs * B ^ 0 + 0 ≤ _
    rw [Nat.pow_zero, Nat.mul_one]
    rw [Nat.pow_one] at b
    omega
  | n, .let w, z, _ => by
    have o := one_le_two (n := n)
    have b : B ^ 1 ≤ B ^ 2 ^ n := Nat.pow_le_pow_right (by omega) o
    show mw B [(srt [w], 1)] ≤ _
    rw [mw_cons, mw_nil, srt_len]
    show 1 * B ^ 1 + 0 ≤ _
    omega
  | 0, .div a i, z, _ => z.elim
  | 0, .op _ a b, z, _ => z.elim
  | n + 1, .div a i, z, h => by
    have f := tr_mw hB z.2.2 (by omega)
    exact Nat.le_trans (mw_over B _ _) (Nat.le_trans f (Nat.pow_le_pow_right (by omega) (Nat.pow_le_pow_right (by decide) (by omega))))
  | n + 1, .op o a b, z, h => by
    have f := tr_mw hB z.1 (by omega)
    have g := tr_mw hB z.2 (by omega)
    have qf := tr_fq3 z.1 (by omega)
    have qg := tr_fq3 z.2 (by omega)
    have e : B ^ 2 ^ (n + 1) = B ^ 2 ^ n * B ^ 2 ^ n := by rw [← Nat.pow_add]; congr 1; rw [Nat.pow_succ]; omega
    have d1 : (formM a).2.natAbs ≤ 2 ^ (4 * 2 ^ n) := by have := qf.den; have := qf.pos; omega
    have d2 : (formM b).2.natAbs ≤ 2 ^ (4 * 2 ^ n) := by have := qg.den; have := qg.pos; omega
    have k := one_le_two (n := n)
    have two : 2 ^ (4 * 2 ^ n) * 2 ≤ B ^ 2 ^ n := by
      have h1 : 2 ^ (4 * 2 ^ n) * 2 = 2 ^ (4 * 2 ^ n + 1) := (Nat.pow_succ ..).symm
      have h2 : 2 ^ (4 * 2 ^ n + 1) ≤ 2 ^ (7 * 2 ^ n) := pow_up (by omega)
      have h3 : 2 ^ (7 * 2 ^ n) = (2 ^ 7) ^ 2 ^ n := Nat.pow_mul ..
      have h4 : (2 ^ 7) ^ 2 ^ n ≤ B ^ 2 ^ n := Nat.pow_le_pow_left hB _
      omega
    have sum : ∀ {x y : Fm}, (x.1.map (·.1)).Nodup → x.2.natAbs ≤ 2 ^ (4 * 2 ^ n) → y.2.natAbs ≤ 2 ^ (4 * 2 ^ n) → mw B x.1 ≤ B ^ 2 ^ n → mw B y.1 ≤ B ^ 2 ^ n → mw B (addM x y).1 ≤ B ^ 2 ^ (n + 1) := fun {x y} nd h1 h2 h3 h4 => by
      refine Nat.le_trans (mw_add B nd) ?_
      have a1 := Nat.mul_le_mul h2 h3
      have a2 := Nat.mul_le_mul h1 h4
      have a3 := Nat.mul_le_mul_right (B ^ 2 ^ n) two
      rw [Nat.mul_right_comm] at a3
      rw [e]
      omega
    cases o with
    | times =>
      refine Nat.le_trans (mw_mul B _ _) ?_
      rw [e]
      exact Nat.mul_le_mul f g
    | minus => exact sum qf.nd d1 d2 f (by show mw B ((formM b).1.map fun r => (r.1, 0 - r.2)) ≤ _; rw [mw_neg]; exact g)
    | plus => exact sum qf.nd d1 d2 f g
/-! ### in lowest terms -/
theorem tr_red : ∀ {L : List Str} {n : Nat} {t : Tr}, TrOk L 7 n t → n ≤ 2 → Red (formM t)
  | L, n, .num i, z, _ => made_red (by decide)
  | L, n, .let w, z, _ => fun c h _ => h
  | L, 0, .div a i, z, _ => z.elim
  | L, 0, .op _ a b, z, _ => z.elim
  | L, n + 1, .div a i, z, h => by
    have f := tr_fq3 z.2.2 (by omega)
    exact made_red (Int.mul_pos f.pos (by have := z.1; omega))
  | L, n + 1, .op o a b, z, h => by
    have f := tr_fq3 z.1 (by omega)
    have g := tr_fq3 z.2 (by omega)
    cases o with
    | times => exact made_red (Int.mul_pos f.pos g.pos)
    | minus => exact made_red (Int.mul_pos f.pos (by have := g.pos; exact this))
    | plus => exact made_red (Int.mul_pos f.pos g.pos)
theorem fx_of {L : List Str} {t d b e : Nat} {f : Fm} (h : Fq L t d b e f) (r : Red f) : Fx L d (nrm f.1) f.2.natAbs f :=
  ⟨h.nd, h.no0, h.keys, h.pos, by have := h.pos; omega, r, f.1, Nat.le_refl _, fun φ => by rw [show (f.2.natAbs : Int) = f.2 by have := h.pos; omega]⟩
theorem Fx.wide {L : List Str} {d e n m N : Nat} {f : Fm} (h : Fx L d n N f) (hd : d ≤ e) (hn : n ≤ m) : Fx L e m N f := by
  have := h.up (M := L) (e := e) (m := m) (k := 1) (fun _ z => z) hd (by decide) (by omega)
  rwa [Nat.mul_one] at this
/-! ### what is put in -/
def atX (v : Str → Int) (x : Str) (G : Int) : Str → Int := fun w => if w = x then G else v w
theorem prod_atX (v : Str → Int) (x : Str) (G : Int) : ∀ p : List Str, prodF (atX v x G) p = prodF v (restM p x) * G ^ p.count x
  | [] => by
    show (1 : Int) = 1 * G ^ 0
    rw [Int.pow_zero, Int.mul_one]
  | y :: p => by
    have ih := prod_atX v x G p
    rw [prodF_cons, ih]
    unfold restM at *
    rw [List.filter_cons, List.count_cons]
    by_cases e : y = x
    · subst e
      rw [if_neg (by simp), if_pos (by simp), Int.pow_succ]
      show (if y = y then G else v y) * _ = _
      rw [if_pos rfl]
      grind
    · rw [if_pos (by simp [e]), if_neg (by simp [e]), prodF_cons, Nat.add_zero]
      show (if y = x then G else v y) * _ = _
      rw [if_neg e, Int.mul_assoc]
theorem Worth.re {v : Str → Int} {f : Fm} {a w a' w' : Int} (h : Worth v f a w) (e : a * w' = a' * w) (p : 0 < w') : Worth v f a' w' := by
  obtain ⟨w0, h⟩ := h
  refine ⟨p, cancelF (c := w) ?_ w0⟩
  grind
theorem Worth.made {v : Str → Int} {rs : List Tm} {u : Int} (p : 0 < u) : Worth v (madeM rs u) (lin (prodF v) rs) u := ⟨p, made_lin (prodF v)⟩
theorem mw_app (B : Nat) (a b : List Tm) : mw B (a ++ b) = mw B a + mw B b := by unfold mw; rw [List.map_append, List.sum_append]
theorem powM_fx {L : List Str} {d M : Nat} {g : Fm} (hg : Fx L d M 1 g) : ∀ k : Nat, Fx L (d * k) (M ^ k) 1 (powM g k)
  | 0 => by rw [Nat.mul_zero, Nat.pow_zero]; exact Fx.numb 1
  | k + 1 => by
    have := (powM_fx hg k).mul hg
    rw [Nat.mul_one] at this
    exact this
theorem powM_worth {v : Str → Int} {g : Fm} {L : List Str} {d M : Nat} {G : Int} (hg : Fx L d M 1 g) (h : Worth v g G 1) : ∀ k : Nat, Worth v (powM g k) (G ^ k) 1
  | 0 => by rw [Int.pow_zero]; exact Worth.num v 1
  | k + 1 => by
    have := (powM_worth hg h k).mul (powM_fx hg k).pos hg.pos h
    rw [Int.mul_one, ← Int.pow_succ] at this
    exact this
/-- what stands for a letter: its powers -/
structure PowIn (L : List Str) (B c : Nat) (g : Fm) : Prop where
  ok : FOk g
  fx : ∀ k, k ≤ c → Fx L (4 * k) (B ^ k) 1 (powM g k)
theorem rest_ok {p : List Str} {x : Str} (h : srt p = p) : srt (restM p x) = restM p x := by
  have : p.Pairwise sle := by rw [← h]; exact srt_pw p
  exact srt_id (this.sublist List.filter_sublist)
section
variable {L : List Str} {t b e B : Nat} {f g : Fm} {x : Str}
theorem one_fx (hf : Fq L t 4 b e f) {r : Tm} (hr : r ∈ f.1) : Fx L (restM r.1 x).length r.2.natAbs f.2.natAbs (oneM f.2 x r) := by
  have k := hf.keys r.1 (List.mem_map_of_mem hr)
  have p := hf.pos
  refine Fx.made (by simp) (fun q hq => ?_) p (by omega) ⟨[(restM r.1 x, r.2)], by simp [nrm], fun φ => by rw [show (f.2.natAbs : Int) = f.2 by omega]⟩
  have : q = restM r.1 x := by simpa using hq
  subst this
  exact ⟨fun w hw => k.1 w (List.mem_filter.mp hw).1, Nat.le_refl _, rest_ok k.2.2⟩
theorem step_fx (hf : Fq L t 4 b e f) (hg : PowIn L B (cntM f x) g) (hB : 1 ≤ B) {r : Tm} (hr : r ∈ f.1) : Fx L 16 (r.2.natAbs * B ^ r.1.length) f.2.natAbs (mulM (oneM f.2 x r) (powM g (r.1.count x))) := by
  have k := hf.keys r.1 (List.mem_map_of_mem hr)
  have cl : r.1.count x ≤ cntM f x := maxL_le (List.mem_map.mpr ⟨r, hr, rfl⟩)
  have rl := rest_len r.1 x
  have m := (one_fx (x := x) hf hr).mul (hg.fx _ cl)
  rw [Nat.mul_one] at m
  refine m.wide (by have := k.2.1; omega) (Nat.mul_le_mul_left _ (Nat.pow_le_pow_right hB (by omega)))
theorem put_fold (hf : Fq L t 4 b e f) (hg : PowIn L B (cntM f x) g) (hB : 1 ≤ B) : ∀ {rs : List Tm} {n : Nat} {a : Fm}, (∀ r ∈ rs, r ∈ f.1) → Fx L 16 n f.2.natAbs a → Fx L 16 (n + mw B rs) f.2.natAbs (rs.foldl (putStep f.2 g x) a)
  | [], n, a, _, h => by rw [List.foldl_nil, mw_nil, Nat.add_zero]; exact h
  | r :: rs, n, a, hr, h => by
    rw [List.foldl_cons, mw_cons, ← Nat.add_assoc]
    exact put_fold hf hg hB (fun s hs => hr s (List.mem_cons_of_mem _ hs)) (h.add (step_fx hf hg hB (hr r (List.mem_cons_self ..))))
theorem nil_fx (hf : Fq L t 4 b e f) : Fx L 16 0 f.2.natAbs (madeM [] 1) := by
  have p := hf.pos
  have := (Fx.zero (L := L)).up (M := L) (e := 16) (m := 0) (k := f.2.natAbs) (fun _ z => z) (by decide) (by omega) (by omega)
  rwa [Nat.one_mul] at this
theorem vec16 : (vecs 3 16).length ≤ 1000 := by decide +kernel
theorem put_good (nd : L.Nodup) (l3 : L.length ≤ 3) (lets : ∀ w ∈ L, letB w = true) (hf : Fq L t 4 b e f) (ht : t ≤ 1000) (hb : b ≤ 200) (he : e < 200) (hg : PowIn L B (cntM f x) g) (hB : 1 ≤ B) (big : mw B f.1 < 2 ^ 200) (hp : B ^ 4 < 2 ^ 200) : PutOk f x g ∧ Fx L 16 (mw B f.1) f.2.natAbs (putM f x g) := by
  have p := hf.pos
  have de : f.2.natAbs < 2 ^ 200 := by
    have := hf.den
    have h2 : 2 ^ e ≤ 2 ^ 200 := pow_up (by omega)
    omega
  have fin : ∀ {n : Nat} {h : Fm}, Fx L 16 n f.2.natAbs h → n < 2 ^ 200 → FOk h := fun {n h} k hn => k.ok nd lets l3 (Nat.le_refl 16) vec16 (by decide) hn de
  have c4 : cntM f x ≤ 4 := by
    unfold cntM
    rcases maxL_mem (f.1.map fun r => r.1.count x) with z | z
    · omega
    · obtain ⟨r, hr, er⟩ := List.mem_map.mp z
      have := (hf.keys r.1 (List.mem_map_of_mem hr)).2.1
      have h2 : r.1.count x ≤ r.1.length := List.count_le_length
      omega
  have memW : ∀ {r : Tm}, r ∈ f.1 → r.2.natAbs * B ^ r.1.length ≤ mw B f.1 := fun {r} hr => by
    obtain ⟨l1, l2, e2⟩ := List.append_of_mem hr
    rw [e2, mw_app, mw_cons]
    omega
  have takeW : ∀ i, mw B (f.1.take i) ≤ mw B f.1 := fun i => by
    have := mw_app B (f.1.take i) (f.1.drop i)
    rw [List.take_append_drop] at this
    omega
  refine ⟨⟨hf.ok lets ht (by decide) hb (by omega), hg.ok, fun k hk => ?_, fun i hi => ?_, fun r hr => ⟨?_, ?_⟩⟩, ?_⟩
  · have h1 := hg.fx k hk
    have h2 : B ^ k ≤ B ^ 4 := Nat.pow_le_pow_right hB (by omega)
    exact (h1.wide (e := 16) (by omega) (Nat.le_refl _)).ok nd lets l3 (Nat.le_refl 16) vec16 (by decide) (by omega) (by decide)
  · have h1 := put_fold hf hg hB (rs := f.1.take i) (fun s hs => List.mem_of_mem_take hs) (nil_fx hf)
    rw [Nat.zero_add] at h1
    exact fin h1 (Nat.lt_of_le_of_lt (takeW i) big)
  · have h1 := one_fx (x := x) hf hr
    have k := hf.keys r.1 (List.mem_map_of_mem hr)
    have rl := rest_len r.1 x
    have h2 : 1 ≤ B ^ r.1.length := Nat.pow_pos hB
    have h3 : r.2.natAbs * 1 ≤ r.2.natAbs * B ^ r.1.length := Nat.mul_le_mul_left _ h2
    have h4 := memW hr
    exact fin (h1.wide (e := 16) (by have := k.2.1; omega) (Nat.le_refl _)) (by omega)
  · exact fin (step_fx hf hg hB hr) (Nat.lt_of_le_of_lt (memW hr) big)
  · have h1 := put_fold hf hg hB (rs := f.1) (fun _ z => z) (nil_fx hf)
    rw [Nat.zero_add] at h1
    exact h1
theorem put_worthF {v : Str → Int} {G : Int} (hf : Fq L t 4 b e f) (hg : PowIn L B (cntM f x) g) (hB : 1 ≤ B) (hw : ∀ k, k ≤ cntM f x → Worth v (powM g k) (G ^ k) 1) : ∀ {rs : List Tm} {n : Nat} {a : Fm} {S : Int}, (∀ r ∈ rs, r ∈ f.1) → Fx L 16 n f.2.natAbs a → Worth v a S f.2 → Worth v (rs.foldl (putStep f.2 g x) a) (S + lin (prodF (atX v x G)) rs) f.2
  | [], n, a, S, _, _, h => by rw [List.foldl_nil, lin_nil, Int.add_zero]; exact h
  | r :: rs, n, a, S, hr, h, w => by
    have p := hf.pos
    have rm := hr r (List.mem_cons_self ..)
    have cl : r.1.count x ≤ cntM f x := maxL_le (List.mem_map.mpr ⟨r, rm, rfl⟩)
    have st := step_fx hf hg hB rm
    have w1 : Worth v (oneM f.2 x r) (lin (prodF v) [(restM r.1 x, r.2)]) f.2 := Worth.made p
    rw [lin_cons, lin_nil, Int.add_zero] at w1
    have w2 := w1.mul (one_fx (x := x) hf rm).pos (hg.fx _ cl).pos (hw _ cl)
    have w3 := w.add h.nd h.pos st.pos w2
    have w4 := w3.re (a' := S + r.2 * prodF (atX v x G) r.1) (w' := f.2) (by
      rw [prod_atX]
      dsimp only
      grind) p
    rw [List.foldl_cons, lin_cons, ← Int.add_assoc]
    exact put_worthF hf hg hB hw (fun s hs => hr s (List.mem_cons_of_mem _ hs)) (h.add st) w4
theorem put_worth {v : Str → Int} {G : Int} (hf : Fq L t 4 b e f) (hg : PowIn L B (cntM f x) g) (hB : 1 ≤ B) (hw : ∀ k, k ≤ cntM f x → Worth v (powM g k) (G ^ k) 1) {a w : Int} (hv : Worth (atX v x G) f a w) : Worth v (putM f x g) a w := by
  have p := hf.pos
  have z : Worth v (madeM [] 1) 0 f.2 := ((Worth.made (v := v) (rs := []) (u := 1) (by decide)).re (a' := 0) (w' := f.2) (by rw [lin_nil, Int.zero_mul, Int.zero_mul]) p)
  have := put_worthF hf hg hB hw (rs := f.1) (fun _ z => z) (nil_fx hf) z
  rw [Int.zero_add] at this
  exact this.re hv.2 hv.1
end
/-- how great, with greater values -/
theorem TrOk.low4 {L : List Str} {m : Nat} {v : Str → Int} (hm : m ≤ 69) (hv : ∀ w ∈ L, (v w).natAbs < 2 ^ 400) : ∀ {n : Nat} {t : Tr}, TrOk L m n t → (worthM v t).1.natAbs < 2 ^ (410 * 2 ^ n) ∧ 0 < (worthM v t).2 ∧ (worthM v t).2.natAbs < 2 ^ (4 * 2 ^ n)
  | n, .num i, z => by
    have z : i.natAbs < 2 ^ m := by cases n <;> exact z
    have o := one_le_two (n := n)
    have : 2 ^ 1 ≤ 2 ^ (4 * 2 ^ n) := pow_up (by omega)
    exact ⟨Nat.lt_of_lt_of_le z (pow_up (by omega)), by show (0 : Int) < 1; decide, by show (1 : Int).natAbs < _; simp only [Int.natAbs_one]; omega⟩
  | n, .let w, z => by
    have z : w ∈ L := by cases n <;> exact z
    have o := one_le_two (n := n)
    have : 2 ^ 1 ≤ 2 ^ (4 * 2 ^ n) := pow_up (by omega)
    exact ⟨Nat.lt_of_lt_of_le (hv w z) (pow_up (by omega)), by show (0 : Int) < 1; decide, by show (1 : Int).natAbs < _; simp only [Int.natAbs_one]; omega⟩
  | 0, .div a i, z => z.elim
  | 0, .op _ a b, z => z.elim
  | n + 1, .div a i, z => by
    obtain ⟨h1, h2, h3⟩ := TrOk.low4 hm hv z.2.2
    have o := one_le_two (n := n)
    have e : 2 ^ (n + 1) = 2 ^ n * 2 := Nat.pow_succ ..
    have p := z.1
    have q := z.2.1
    exact ⟨Nat.lt_of_lt_of_le h1 (pow_up (by omega)), Int.mul_pos h2 (by omega), wmul (b := 4) h3 (by omega) (by omega)⟩
  | n + 1, .op o a b, z => by
    obtain ⟨h1, h2, h3⟩ := TrOk.low4 hm hv z.1
    obtain ⟨k1, k2, k3⟩ := TrOk.low4 hm hv z.2
    have c := one_le_two (n := n)
    have e : 2 ^ (n + 1) = 2 ^ n * 2 := Nat.pow_succ ..
    have w := wmul (c := 4 * 2 ^ (n + 1)) h3 k3 (by omega)
    have x := wmul (c := 414 * 2 ^ n) h1 k3 (by omega)
    have y := wmul (c := 414 * 2 ^ n) k1 h3 (by omega)
    have s := wadd (c := 410 * 2 ^ (n + 1)) x y (by omega) (by omega)
    cases o with
    | times => exact ⟨wmul h1 k1 (by omega), Int.mul_pos h2 k2, w⟩
    | plus => exact ⟨s.1, Int.mul_pos h2 k2, w⟩
    | minus => exact ⟨s.2, Int.mul_pos h2 k2, w⟩

end
end CP

namespace CP
open PySem L2
section
/-! when forms are the same, and their terms -/
theorem pw_uniq : ∀ {l m : List (List Str)}, l.Perm m → l.Pairwise (fun a b => leQ a b = true) → m.Pairwise (fun a b => leQ a b = true) → l = m
  | [], m, p, _, _ => (List.nil_perm.mp p).symm
  | a :: l, m, p, hl, hm => by
    cases m with
    | nil => exact absurd p.length_eq (by simp)
    | cons b m =>
      obtain ⟨ha, hl⟩ := List.pairwise_cons.mp hl
      obtain ⟨hb, hm2⟩ := List.pairwise_cons.mp hm
      have e : a = b := by
        have am : a ∈ b :: m := p.mem_iff.mp (List.mem_cons_self ..)
        have bl : b ∈ a :: l := p.mem_iff.mpr (List.mem_cons_self ..)
        rcases List.mem_cons.mp am with z | z
        · exact z
        · rcases List.mem_cons.mp bl with y | y
          · exact y.symm
          · exact leQ_anti (ha b y) (hb a z)
      subst e
      clear ha hb
      rw [pw_uniq (List.Perm.cons_inv p) hl hm2]
theorem mem_key {f : Fm} (nd : (f.1.map (·.1)).Nodup) (n0 : ∀ r ∈ f.1, r.2 ≠ 0) (p : List Str) : p ∈ f.1.map (·.1) ↔ getT f.1 p ≠ 0 := by
  constructor
  · intro h
    obtain ⟨r, hr, rfl⟩ := List.mem_map.mp h
    rw [getT_mem nd hr]
    exact n0 r hr
  · intro h
    exact Classical.byContradiction fun no => h (getT_out no)
theorem terms_eq {f g : Fm} (nf : (f.1.map (·.1)).Nodup) (ng : (g.1.map (·.1)).Nodup) (zf : ∀ r ∈ f.1, r.2 ≠ 0) (zg : ∀ r ∈ g.1, r.2 ≠ 0) (h : eqM f g = true) : termsM f = termsM g := by
  have gt : ∀ p, getT f.1 p = getT g.1 p := fun p => by rw [← lin_delta p nf, ← lin_delta p ng, eq_lin nf ng h]
  have eu : f.2 = g.2 := by
    unfold eqM at h
    rw [Bool.and_eq_true] at h
    exact of_decide_eq_true h.2
  have pm : (f.1.map (·.1)).Perm (g.1.map (·.1)) := (List.perm_ext_iff_of_nodup nf ng).mpr fun p => by rw [mem_key nf zf, mem_key ng zg, gt]
  have ord : ordP (f.1.map (·.1)) = ordP (g.1.map (·.1)) := pw_uniq ((ordP_perm _).trans (pm.trans (ordP_perm _).symm)) (ordP_pw _) (ordP_pw _)
  unfold termsM
  rw [ord]
  refine List.map_congr_left fun p _ => ?_
  unfold termM
  rw [gt, eu]
theorem tm_worth {f : Fm} (fo : FOk f) (v : Str → Int) : Worth v f ((termsM f).foldl (tmStep v) (0, 1)).1 ((termsM f).foldl (tmStep v) (0, 1)).2 := by
  obtain ⟨e, u⟩ := tm_fold fo v (ordP (f.1.map (·.1))) 0 1 0 (by omega) (by decide)
  have pm := (ordP_perm (f.1.map (·.1))).map fun p => getT f.1 p * prodF v p
  rw [sum_perm2 pm, List.map_map, Int.zero_add] at e
  have s : (f.1.map ((fun p => getT f.1 p * prodF v p) ∘ (·.1))).sum = lin (prodF v) f.1 := by
    unfold lin
    refine congrArg List.sum (List.map_congr_left fun r hr => ?_)
    show getT f.1 r.1 * prodF v r.1 = _
    rw [getT_mem fo.nd hr]
  rw [s] at e
  exact ⟨u, e.symm⟩
section
variable {L : List Str} {d e n m N P : Nat} {f g : Fm}
theorem eq_terms (nd : L.Nodup) (hf : Fx L d n N f) (hg : Fx L e m P g) (fo : FOk f) (go : FOk g) (h : termsM f = termsM g) : eqM f g = true :=
  eq_of_worth nd hf hg fun v => by
    have a := tm_worth fo v
    have b := tm_worth go v
    rw [h] at a
    exact ⟨_, _, _, _, a, b, rfl⟩
theorem eq_self (hf : Fx L d n N f) : eqM f f = true := fx_same hf hf fun _ => rfl
theorem eq_is (nd : L.Nodup) (hf : Fx L d n N f) (hg : Fx L e m P g) (fo : FOk f) (go : FOk g) : eqM f g = decide (termsM f = termsM g) := by
  by_cases h : termsM f = termsM g
  · rw [decide_eq_true h, eq_terms nd hf hg fo go h]
  · rw [decide_eq_false h]
    exact Bool.eq_false_iff.mpr fun z => h (terms_eq hf.nd hg.nd hf.no0 hg.no0 z)
theorem self_worth (p : 0 < f.2) (v : Str → Int) : Worth v f (lin (prodF v) f.1) f.2 := ⟨p, rfl⟩
end
/-- bounds, and lowest terms -/
structure Gf (L : List Str) (t d b e : Nat) (f : Fm) : Prop where
  q : Fq L t d b e f
  r : Red f
section
variable {L : List Str} {t d b e t1 t2 d1 d2 b1 b2 e1 e2 : Nat} {f g : Fm}
theorem Gf.fx (h : Gf L t d b e f) : Fx L d (nrm f.1) f.2.natAbs f := fx_of h.q h.r
theorem Gf.add (hf : Gf L t1 d1 b1 e1 f) (hg : Gf L t2 d2 b2 e2 g) (h1 : d1 ≤ d) (h2 : d2 ≤ d) (h3 : b1 + e2 < b) (h4 : b2 + e1 < b) : Gf L (t1 + t2) d b (e1 + e2) (addM f g) :=
  ⟨Fq.add (hf.q.up (fun _ z => z) (Nat.le_refl _) h1 (Nat.le_refl _) (Nat.le_refl _)) (hg.q.up (fun _ z => z) (Nat.le_refl _) h2 (Nat.le_refl _) (Nat.le_refl _)) h3 h4, made_red (Int.mul_pos hf.q.pos hg.q.pos)⟩
theorem Gf.mul (hf : Gf L t1 d1 b1 e1 f) (hg : Gf L t2 d2 b2 e2 g) : Gf L (t1 * t2) (d1 + d2) (b1 + b2) (e1 + e2) (mulM f g) :=
  ⟨Fq.mul hf.q hg.q, made_red (Int.mul_pos hf.q.pos hg.q.pos)⟩
theorem Gf.neg (hf : Gf L t d b e f) : Gf L t d b e (negM f) := ⟨hf.q.neg, hf.fx.neg.red⟩
theorem Gf.over (hf : Gf L t d b e f) {n : Int} {k : Nat} (n0 : n ≠ 0) (nk : n.natAbs < 2 ^ k) : Gf L t d b (e + k) (overM f n) :=
  ⟨hf.q.over n0 nk, made_red (Int.mul_pos hf.q.pos (by omega))⟩
theorem Gf.num {b : Nat} (n : Int) (h : n.natAbs < 2 ^ b) : Gf L 1 0 b 1 (madeM [([], n)] 1) := ⟨Fq.num n h, made_red (by decide)⟩
theorem Gf.ok (h : Gf L t d b e f) (lets : ∀ w ∈ L, letB w = true) (ht : t ≤ 1000) (hd : d ≤ 1000) (hb : b ≤ 200) (he : e ≤ 200) : FOk f := h.q.ok lets ht hd hb he
theorem tr_gd {n : Nat} {t : Tr} (h : TrOk L 7 n t) (hn : n ≤ 2) : Gf L (2 ^ n) (2 ^ n) (7 * 2 ^ n) (4 * 2 ^ n) (formM t) := ⟨tr_fq3 h hn, tr_red h hn⟩
theorem Gf.pos (h : Gf L t d b e f) : 0 < f.2 := h.q.pos
theorem Gf.nd (h : Gf L t d b e f) : (f.1.map (·.1)).Nodup := h.q.nd
end
def numF (k : Int) : Fm := madeM [([], k)] 1
/-! ### what the law says of all forms -/
section
variable {L : List Str} {t d b e t2 d2 b2 e2 t3 d3 b3 e3 : Nat} {f g h : Fm}
theorem wh_four (nd : L.Nodup) (hf : Gf L t d b e f) : eqM (addM (addM f (numF 5)) (numF (-5))) f = true := by
  have n5 : Gf L 1 0 3 1 (numF 5) := Gf.num 5 (by decide)
  have m5 : Gf L 1 0 3 1 (numF (-5)) := Gf.num (-5) (by decide)
  have a := hf.add n5 (d := d) (b := b + e + 5) (Nat.le_refl _) (by omega) (by omega) (by omega)
  have c := a.add m5 (d := d) (b := b + e + 10) (Nat.le_refl _) (by omega) (by omega) (by omega)
  refine eq_of_worth nd c.fx hf.fx fun v => ?_
  have w := self_worth hf.pos v
  have w2 := w.add hf.nd hf.pos n5.pos (Worth.num v 5)
  have w3 := w2.add a.nd a.pos m5.pos (Worth.num v (-5))
  exact ⟨_, _, _, _, w3, w, by grind⟩
theorem wh_zero (f : Fm) : termsM (mulM f (numF 0)) = [] := by
  have z : numF 0 = ([], 1) := by decide +kernel
  have e : ∀ fs : List Tm, fs.foldl (mulRow []) [] = [] := fun fs => by
    induction fs with
    | nil => rfl
    | cons a fs ih => rw [List.foldl_cons]; exact ih
  rw [z]
  unfold mulM mulR
  rw [e]
  rfl
theorem wh_six (nd : L.Nodup) (hf : Gf L t d b e f) : eqM (mulM (overM f 6) (numF 6)) f = true ∧ eqM (overM (mulM f (numF 6)) 6) f = true := by
  have n6 : Gf L 1 0 3 1 (numF 6) := Gf.num 6 (by decide)
  have o := hf.over (n := 6) (k := 3) (by decide) (by decide)
  have m := hf.mul n6
  refine ⟨eq_of_worth nd (o.mul n6).fx hf.fx fun v => ?_, eq_of_worth nd (m.over (n := 6) (k := 3) (by decide) (by decide)).fx hf.fx fun v => ?_⟩
  · have w := self_worth hf.pos v
    have w2 := w.over hf.pos (n := 6) (by decide)
    rw [if_pos (by decide)] at w2
    have w3 := w2.mul o.pos n6.pos (Worth.num v 6)
    exact ⟨_, _, _, _, w3, w, by
      rw [show (((6 : Int).natAbs : Nat) : Int) = 6 from rfl]
      grind⟩
  · have w := self_worth hf.pos v
    have w2 := w.mul hf.pos n6.pos (Worth.num v 6)
    have w3 := w2.over m.pos (n := 6) (by decide)
    rw [if_pos (by decide)] at w3
    exact ⟨_, _, _, _, w3, w, by
      rw [show (((6 : Int).natAbs : Nat) : Int) = 6 from rfl]
      grind⟩
theorem wh_more (hf : Gf L t d b e f) (fo : FOk f) (go : FOk (addM f (numF 1))) : termsM (addM f (numF 1)) ≠ termsM f := fun z => by
  have n1 : Gf L 1 0 1 1 (numF 1) := Gf.num 1 (by decide)
  have a := tm_worth fo fun _ => 0
  have b := tm_worth go fun _ => 0
  rw [z] at b
  have c := a.add hf.nd hf.pos n1.pos (Worth.num _ 1)
  obtain ⟨u0, b⟩ := b
  obtain ⟨_, c⟩ := c
  have p : 0 < (addM f (numF 1)).2 := go.pos.1
  change lin _ (addM f (numF 1)).1 * _ = _ * (addM f (numF 1)).2 at c
  generalize lin (prodF fun _ => 0) (addM f (numF 1)).1 = X at *
  generalize (addM f (numF 1)).2 = S at *
  generalize (List.foldl (tmStep fun _ => 0) (0, 1) (termsM f)).1 = A at *
  generalize (List.foldl (tmStep fun _ => 0) (0, 1) (termsM f)).2 = U at *
  have k : U * S = 0 := by grind
  rcases Int.mul_eq_zero.mp k with z | z <;> omega
theorem wh_back (nd : L.Nodup) (hf : Gf L t d b e f) : eqM (addM (addM f (numF 1)) (negM (numF 1))) f = true := by
  have n1 : Gf L 1 0 1 1 (numF 1) := Gf.num 1 (by decide)
  have a := hf.add n1 (d := d) (b := b + e + 5) (Nat.le_refl _) (by omega) (by omega) (by omega)
  have c := a.add n1.neg (d := d) (b := b + e + 10) (Nat.le_refl _) (by omega) (by omega) (by omega)
  refine eq_of_worth nd c.fx hf.fx fun v => ?_
  have w := self_worth hf.pos v
  have w2 := w.add hf.nd hf.pos n1.pos (Worth.num v 1)
  have w3 := w2.add a.nd a.pos n1.neg.pos (Worth.num v 1).neg
  exact ⟨_, _, _, _, w3, w, by grind⟩
theorem wh_two (nd : L.Nodup) (hf : Gf L t d b e f) : eqM (overM (addM f f) 2) f = true := by
  have a := hf.add hf (d := d) (b := b + e + 5) (Nat.le_refl _) (by omega) (by omega) (by omega)
  refine eq_of_worth nd (a.over (n := 2) (k := 2) (by decide) (by decide)).fx hf.fx fun v => ?_
  have w := self_worth hf.pos v
  have w2 := w.add hf.nd hf.pos hf.pos w
  have w3 := w2.over a.pos (n := 2) (by decide)
  rw [if_pos (by decide)] at w3
  exact ⟨_, _, _, _, w3, w, by
    rw [show (((2 : Int).natAbs : Nat) : Int) = 2 from rfl]
    grind⟩
theorem lw_comm (nd : L.Nodup) (hf : Gf L t d b e f) (hg : Gf L t2 d2 b2 e2 g) : eqM (addM f g) (addM g f) = true := by
  have a := hf.add hg (d := d + d2) (b := b + b2 + e + e2 + 1) (by omega) (by omega) (by omega) (by omega)
  have c := hg.add hf (d := d + d2) (b := b + b2 + e + e2 + 1) (by omega) (by omega) (by omega) (by omega)
  refine eq_of_worth nd a.fx c.fx fun v => ?_
  have w := self_worth hf.pos v
  have w2 := self_worth hg.pos v
  exact ⟨_, _, _, _, w.add hf.nd hf.pos hg.pos w2, w2.add hg.nd hg.pos hf.pos w, by grind⟩
theorem lw_dist (nd : L.Nodup) (hf : Gf L t d b e f) (hg : Gf L t2 d2 b2 e2 g) (hh : Gf L t3 d3 b3 e3 h) : eqM (mulM f (addM g h)) (addM (mulM f g) (mulM f h)) = true := by
  have a := hg.add hh (d := d2 + d3) (b := b2 + b3 + e2 + e3 + 1) (by omega) (by omega) (by omega) (by omega)
  have m1 := hf.mul hg
  have m2 := hf.mul hh
  have c := m1.add m2 (d := d + d2 + d3) (b := b + b2 + e + e2 + b3 + e3 + 1 + b + e) (by omega) (by omega) (by omega) (by omega)
  refine eq_of_worth nd (hf.mul a).fx c.fx fun v => ?_
  have w := self_worth hf.pos v
  have w2 := self_worth hg.pos v
  have w3 := self_worth hh.pos v
  exact ⟨_, _, _, _, w.mul hf.pos a.pos (w2.add hg.nd hg.pos hh.pos w3), (w.mul hf.pos hg.pos w2).add m1.nd m1.pos m2.pos (w.mul hf.pos hh.pos w3), by grind⟩
theorem lw_sq (nd : L.Nodup) (hf : Gf L t d b e f) (hg : Gf L t2 d2 b2 e2 g) : eqM (mulM (addM f (negM g)) (addM f g)) (addM (mulM f f) (negM (mulM g g))) = true := by
  have a := hf.add hg (d := d + d2) (b := b + b2 + e + e2 + 1) (by omega) (by omega) (by omega) (by omega)
  have c := hf.add hg.neg (d := d + d2) (b := b + b2 + e + e2 + 1) (by omega) (by omega) (by omega) (by omega)
  have m1 := hf.mul hf
  have m2 := hg.mul hg
  have s := m1.add m2.neg (d := d + d + d2 + d2) (b := b + b + b2 + b2 + e + e + e2 + e2 + 1) (by omega) (by omega) (by omega) (by omega)
  refine eq_of_worth nd (c.mul a).fx s.fx fun v => ?_
  have w := self_worth hf.pos v
  have w2 := self_worth hg.pos v
  exact ⟨_, _, _, _, (w.add hf.nd hf.pos hg.neg.pos w2.neg).mul c.pos a.pos (w.add hf.nd hf.pos hg.pos w2), (w.mul hf.pos hf.pos w).add m1.nd m1.pos m2.neg.pos (w2.mul hg.pos hg.pos w2).neg, by grind⟩
theorem lw_none (nd : L.Nodup) (hf : Gf L t d b e f) : termsM (addM f (negM f)) = [] := by
  have a := hf.add hf.neg (d := d) (b := b + e + 1) (Nat.le_refl _) (Nat.le_refl _) (by omega) (by omega)
  have z : Gf L 1 0 1 1 (numF 0) := Gf.num 0 (by decide)
  have q : eqM (addM f (negM f)) (numF 0) = true := eq_of_worth nd a.fx z.fx fun v => by
    have w := self_worth hf.pos v
    exact ⟨_, _, _, _, w.add hf.nd hf.pos hf.neg.pos w.neg, Worth.num v 0, by grind⟩
  rw [terms_eq a.nd z.nd a.q.no0 z.q.no0 q]
  decide +kernel
end
/-! ### lists of terms as data -/
def tmD (t : Int × Int × List Str) : PyData := .tuple [.int t.1, .int t.2.1, .list (t.2.2.map .str)]
def tmsD (ts : List (Int × Int × List Str)) : PyData := .list (ts.map tmD)
theorem eqv_tm (t u : Int × Int × List Str) : PyData.eqv (tmD t) (tmD u) = decide (t = u) := by
  obtain ⟨a, b, p⟩ := t
  obtain ⟨c, d, q⟩ := u
  unfold tmD
  simp only [PyData.eqv, PyData.eqvAll, eqv_strs, Bool.and_true]
  by_cases h1 : a = c <;> by_cases h2 : b = d <;> by_cases h3 : p = q <;> simp [h1, h2, h3]
theorem eqv_tms : ∀ ts us : List (Int × Int × List Str), PyData.eqvAll (ts.map tmD) (us.map tmD) = decide (ts = us)
  | [], [] => by simp [PyData.eqvAll]
  | [], _ :: _ => by simp [PyData.eqvAll]
  | _ :: _, [] => by simp [PyData.eqvAll]
  | a :: r, b :: t => by
    simp only [List.map_cons, PyData.eqvAll, eqv_tm, eqv_tms r t]
    by_cases h : a = b <;> by_cases h' : r = t <;> simp [h, h']
theorem tms_dp {K : PySem.W.Frag} {H : Hp} : ∀ {vs : List V} {ts : List (Int × Int × List Str)}, Paired (TermAt H) vs ts → DpAll K H vs (ts.map tmD)
  | _, _, .nil => .nil
  | _, _, .cons ⟨a, b, e, h1, h2⟩ r => by
    subst e
    exact .cons (.tup (.of h1) (.cons (.int _) (.cons (.int _) (.cons (.lst (.of h2) (dpA_strs _)) .nil)))) (tms_dp r)
theorem tms_sh : ∀ {ts : List (Int × Int × List Str)}, (∀ t ∈ ts, ∀ w ∈ t.2.2, (PyData.str w).canLay0 = true) → PyData.canLayAll0 (ts.map tmD) = true ∧ PyData.depthAll (ts.map tmD) ≤ 3
  | [], _ => ⟨by simp [PyData.canLayAll0], by simp [PyData.depthAll]⟩
  | p :: ps, h => by
    obtain ⟨i1, i2⟩ := tms_sh fun q hq => h q (List.mem_cons_of_mem _ hq)
    obtain ⟨x1, x2⟩ := lay_strs (xs := p.2.2) fun x hx => h p (List.mem_cons_self ..) x hx
    refine ⟨?_, ?_⟩
    · simp [PyData.canLayAll0, tmD, PyData.canLay0, x1, i1]
    · simp only [List.map_cons, PyData.depthAll, tmD, PyData.depth, x2]
      omega
theorem tms_lets {f : Fm} (fo : FOk f) : ∀ t ∈ termsM f, ∀ w ∈ t.2.2, (PyData.str w).canLay0 = true := fun t ht w hw => by
  unfold termsM at ht
  obtain ⟨p, hp, rfl⟩ := List.mem_map.mp ht
  obtain ⟨r, hr, rfl⟩ := List.mem_map.mp ((ordP_perm _).mem_iff.mp hp)
  exact let_lay ((fo.lets r hr).1 w hw)
theorem sh_of {d : PyData} (h1 : d.canLay0 = true) (h2 : d.depth ≤ 60) : SeqAt.shaped d = true := by
  show (PyData.canLay0 d && decide (PyData.depth d ≤ 64)) = true
  rw [h1, decide_eq_true (by omega)]
  rfl
theorem tmsD_sh {ts : List (Int × Int × List Str)} (h : ∀ t ∈ ts, ∀ w ∈ t.2.2, (PyData.str w).canLay0 = true) : SeqAt.shaped (tmsD ts) = true := by
  obtain ⟨a, b⟩ := tms_sh h
  exact sh_of (by unfold tmsD; simp [PyData.canLay0, a]) (by unfold tmsD; simp only [PyData.depth]; omega)
section
variable {K : PySem.W.Frag} {H : Hp} {Q : VK} {a b : Addr} {ts us : List (Int × Int × List Str)}
theorem TermsAt.dp (h : TermsAt H a ts) : Dp K H (.ref a) (tmsD ts) := by
  obtain ⟨vs, hv, p⟩ := h
  exact .lst (.of hv) (tms_dp p)
theorem tms_neX (h : TermsAt H a ts) (h2 : TermsAt H b us) (l1 : ∀ t ∈ ts, ∀ w ∈ t.2.2, (PyData.str w).canLay0 = true) (l2 : ∀ t ∈ us, ∀ w ∈ t.2.2, (PyData.str w).canLay0 = true) (q : Q (.bl (!decide (ts = us))) H) : rNeX K (.ref a) (.ref b) H Q := by
  refine .inr (.inl ⟨_, _, h.dp, h2.dp, tmsD_sh l1, tmsD_sh l2, ?_⟩)
  show Q (.bl (!PyData.eqvAll (ts.map tmD) (us.map tmD))) H
  rw [eqv_tms]
  exact q
theorem tms_eqX (h : TermsAt H a ts) (h2 : TermsAt H b us) (l1 : ∀ t ∈ ts, ∀ w ∈ t.2.2, (PyData.str w).canLay0 = true) (l2 : ∀ t ∈ us, ∀ w ∈ t.2.2, (PyData.str w).canLay0 = true) (q : Q (.bl (decide (ts = us))) H) : rEqX K (.ref a) (.ref b) H Q := by
  refine .inr (.inl ⟨_, _, h.dp, h2.dp, tmsD_sh l1, tmsD_sh l2, ?_⟩)
  show Q (.bl (PyData.eqvAll (ts.map tmD) (us.map tmD))) H
  rw [eqv_tms]
  exact q
end

end
end CP

namespace CP
open PySem L2
section
variable {P : Program} {w : World} {K : PySem.W.Frag} {mg : Str → Option Value} {base : Heap}
def sp_Form___eq (T : Txt K mg) : Sp := fun vs H Q _ => match vs with
  | [.ref o, .ref u] => ∃ f g, FormZ T.z T.a_Form H o f ∧ FormZ T.z T.a_Form H u g ∧ Q (.bl (eqM f g)) H
  | _ => False
def t_Form___eq (w : World) (T : Txt K mg) : TS := tRet (tAndV (tCB (rIsi K) (tCons (tVar 1) (tCons (tC (.ref T.a_Form)) (tNil)))) (tAndV (tOp (rEqZ T.z) (tFld K (tVar 0) "rows") (tFld K (tVar 1) "rows")) (tOp rEq (tFld K (tVar 0) "under") (tFld K (tVar 1) "under"))))
theorem len_Form___eq (T : Txt K mg) : ∀ (vs : List V) (H : Hp) (Q : VK) (E : XK), sp_Form___eq T vs H Q E → vs.length = (["self", "other"] : List Str).length := by
  intro vs H Q E h
  unfold sp_Form___eq at h
  split at h
  all_goals first | rfl | exact h.elim
theorem rd_Form___eq (T : Txt K mg) (vs : List V) (H : Hp) (Q : VK) (E : XK) (h : sp_Form___eq T vs H Q E) : t_Form___eq w T { nx := fun _ H' => Q .non H', rt := Q } (start ["self", "other"] vs) H := by
  match vs, h with
  | [.ref o, .ref u], h =>
  obtain ⟨f, g, ⟨dx, d, ho, hd⟩, ⟨dy, e, hu, he⟩, q⟩ := h
  have q : Q (.bl (sameT (rowsT f.1) (rowsT g.1) && decide (f.2 = g.2))) H := q
  unfold t_Form___eq
  walk_at "st"
  repeat walk_at "w"
  refine r_isiC hu T.I_Form ?_
  refine ⟨true, rfl, if_t ?_⟩
  repeat walk_at "w"
  refine r_fget ho T.c_Form T.n_Form_rows (by rfl) ?_
  repeat walk_at "w"
  refine r_fget hu T.c_Form T.n_Form_rows (by rfl) ?_
  refine ⟨d, e, _, _, rfl, rfl, .inr hd, .inr he, rowsT_ints _, rowsT_ints _, ?_⟩
  cases hs : sameT (rowsT f.1) (rowsT g.1) with
  | false =>
    rw [hs] at q
    exact ⟨false, rfl, if_f q⟩
  | true =>
    rw [hs, Bool.true_and] at q
    refine ⟨true, rfl, if_t ?_⟩
    repeat walk_at "w"
    refine r_fget ho T.c_Form T.n_Form_under (by rfl) ?_
    repeat walk_at "w"
    refine r_fget hu T.c_Form T.n_Form_under (by rfl) ?_
    repeat walk_at "w"
    exact q

theorem ok_Form___eq (T : Txt K mg) : FnOk T.z.1 T.z.2 K mg base CX0 1 T.a_Form___eq T.fd_Form___eq ["self", "other"] (sp_Form___eq T) :=
  T.F_Form___eq.ok sc_Form___eq (len_Form___eq T) fun cdv A outer s H vs Q E hr h => ⟨t_Form___eq T.z.2 T, (pss_one (ps_ret (pe_and (pe_callB call_isi (by rfl) T.n_isinstance (by decide +kernel) (pa_cons (pv 1) (pa_cons (pe_glob (v := .ref T.a_Form) (by rfl) T.m_Form rfl) pa_nil))) (pe_and (pe_cmpR (op_eqZ (hu_of hr)) (pe_fld (pv 0) rfl) (pe_fld (pv 1) rfl) (nomark _)) (pe_one (pe_cmpR op_eq (pe_fld (pv 0) rfl) (pe_fld (pv 1) rfl) (nomark _))))))), rd_Form___eq T vs H Q E h⟩
end
end CP

namespace CP
open PySem L2
section
variable {P : Program} {w : World} {K : PySem.W.Frag} {mg : Str → Option Value} {base : Heap}
def sp_number (T : Txt K mg) : Sp := fun vs H Q _ => match vs with
  | [.int n] => ∀ o H', H o = none → Same H H' → FormZ T.z T.a_Form H' o (madeM [([], n)] 1) → Q (.ref o) H'
  | _ => False
@[reducible] def t_number_0 (w : World) (T : Txt K mg) : TS := tRet (tCall (sp_made T) [] E0 (tCons (tDispZ T.z (tTupZ (tNil)) (tVar 0)) (tCons (tC (.int 1)) (tNil))))
def t_number (w : World) (T : Txt K mg) : TS := tSeq (tIfS (tNot (tB (tCall (sp_is_whole T) [] E0 (tCons (tVar 0) (tNil))))) (tNever) (tNext)) (t_number_0 w T)
theorem len_number (T : Txt K mg) : ∀ (vs : List V) (H : Hp) (Q : VK) (E : XK), sp_number T vs H Q E → vs.length = (["value"] : List Str).length := by
  intro vs H Q E h
  unfold sp_number at h
  split at h
  all_goals first | rfl | exact h.elim
theorem rd_number (T : Txt K mg) (vs : List V) (H : Hp) (Q : VK) (E : XK) (h : sp_number T vs H Q E) : t_number w T { nx := fun _ H' => Q .non H', rt := Q } (start ["value"] vs) H := by
  match vs, h with
  | [.int n], q =>
  have q : ∀ o H', H o = none → Same H H' → FormZ T.z T.a_Form H' o (madeM [([], n)] 1) → Q (.ref o) H' := q
  unfold t_number
  walk_at "st"
  repeat walk_at "w"
  refine ⟨"int", .inl tk_int, ?_⟩
  rw [show ("int" == "int") = true by decide]
  repeat walk_at "w"
  refine r_dispZ fun d H2 d0 s2 hd => ?_
  refine r_tupZ ?_
  repeat walk_at "w"
  refine ⟨Nat.zero_le _, fun t H3 t0 s3 ht => ?_⟩
  repeat walk_at "w"
  refine ⟨CP.Same.to s3 hd, keyT [], t, rfl, ht, fun H4 sb hd4 => ?_⟩
  have S4 : Same H H4 := CP.Same.sb (s2.trans s3) d0 sb
  repeat walk_at "w"
  exact ⟨[([], n)], hd4, by simp, by decide, by decide, fun o H5 o0 s5 hf => q o H5 (L2.Same.free S4 o0) (S4.trans s5) hf⟩

theorem ok_number (T : Txt K mg) : FnOk T.z.1 T.z.2 K mg base CX0 4 T.a_number T.fd_number ["value"] (sp_number T) :=
  T.F_number.ok sc_number (len_number T) fun cdv A outer s H vs Q E hr h => ⟨t_number T.z.2 T, (pss_cons (ps_if (pt_not (pt_val (pe_call (ok_is_whole T) (hr.mono (by decide)) (by rfl) T.m_is_whole T.F_is_whole.kp (b_is_whole T) .nil pass0 (pa_cons (pv 0) pa_nil)))) (pss_one ps_never) pss_nil)
      (pss_one (ps_ret (pe_call (ok_made T) (hr.mono (by decide)) (by rfl) T.m_made T.F_made.kp (b_made T) .nil pass0 (pa_cons (pe_dispZ hr.units0 (pe_tupZ pa_nil) (pv 0)) (pa_cons pe_int pa_nil)))))), rd_number T vs H Q E h⟩
end
end CP

namespace CP
open PySem L2
section
/-! the operators on forms, one lemma a step -/
section
variable {K : PySem.W.Frag} {mg : Str → Option Value} {T : Txt K mg} {H : Hp} {Q : VK} {E : XK} {o u : Addr} {f g : Fm} {n : Int}
theorem FormZ.ins {z : Pw} {C : Addr} (h : FormZ z C H o f) : ∃ dx fs, H o = some (.ins C dx fs) := by
  obtain ⟨dx, _, e, _⟩ := h
  exact ⟨dx, _, e⟩
theorem d_addI (hf : FormZ T.z T.a_Form H o f) (fo : FOk f) (go : FOk (numF n)) (q : ∀ p H', H p = none → Same H H' → FormZ T.z T.a_Form H' p (addM f (numF n)) → Q (.ref p) H') : rBinI T.a_Form (sp_Form___add T) E (.ref o) (.int n) H Q := by
  obtain ⟨dx, fs, e⟩ := hf.ins
  exact ⟨o, n, dx, fs, rfl, rfl, e, f, numF n, hf, .inr ⟨n, rfl, rfl⟩, fo, go, fun p H' p0 s hp => ⟨p, rfl, q p H' p0 s hp⟩⟩
theorem d_mulI (hf : FormZ T.z T.a_Form H o f) (fo : FOk f) (go : FOk (numF n)) (q : ∀ p H', H p = none → Same H H' → FormZ T.z T.a_Form H' p (mulM f (numF n)) → Q (.ref p) H') : rBinI T.a_Form (sp_Form___mul T) E (.ref o) (.int n) H Q := by
  obtain ⟨dx, fs, e⟩ := hf.ins
  exact ⟨o, n, dx, fs, rfl, rfl, e, f, numF n, hf, .inr ⟨n, rfl, rfl⟩, fo, go, fun p H' p0 s hp => ⟨p, rfl, q p H' p0 s hp⟩⟩
theorem d_subI (hf : FormZ T.z T.a_Form H o f) (fo : FOk f) (go : FOk (numF n)) (q : ∀ p H', H p = none → Same H H' → FormZ T.z T.a_Form H' p (addM f (negM (numF n))) → Q (.ref p) H') : rBinI T.a_Form (sp_Form___sub T) E (.ref o) (.int n) H Q := by
  obtain ⟨dx, fs, e⟩ := hf.ins
  exact ⟨o, n, dx, fs, rfl, rfl, e, f, numF n, hf, .inr ⟨n, rfl, rfl⟩, fo, go, fun p H' p0 s hp => ⟨p, rfl, q p H' p0 s hp⟩⟩
theorem d_addO (hf : FormZ T.z T.a_Form H o f) (hg : FormZ T.z T.a_Form H u g) (fo : FOk f) (go : FOk g) (q : ∀ p H', H p = none → Same H H' → FormZ T.z T.a_Form H' p (addM f g) → Q (.ref p) H') : rBinO T.a_Form (sp_Form___add T) E (.ref o) (.ref u) H Q := by
  obtain ⟨dx, fs, e⟩ := hf.ins
  obtain ⟨dy, gs, e2⟩ := hg.ins
  exact ⟨o, u, dx, dy, fs, gs, rfl, rfl, e, e2, f, g, hf, .inl ⟨u, rfl, hg⟩, fo, go, fun p H' p0 s hp => ⟨p, rfl, q p H' p0 s hp⟩⟩
theorem d_mulO (hf : FormZ T.z T.a_Form H o f) (hg : FormZ T.z T.a_Form H u g) (fo : FOk f) (go : FOk g) (q : ∀ p H', H p = none → Same H H' → FormZ T.z T.a_Form H' p (mulM f g) → Q (.ref p) H') : rBinO T.a_Form (sp_Form___mul T) E (.ref o) (.ref u) H Q := by
  obtain ⟨dx, fs, e⟩ := hf.ins
  obtain ⟨dy, gs, e2⟩ := hg.ins
  exact ⟨o, u, dx, dy, fs, gs, rfl, rfl, e, e2, f, g, hf, .inl ⟨u, rfl, hg⟩, fo, go, fun p H' p0 s hp => ⟨p, rfl, q p H' p0 s hp⟩⟩
theorem d_subO (hf : FormZ T.z T.a_Form H o f) (hg : FormZ T.z T.a_Form H u g) (fo : FOk f) (go : FOk g) (q : ∀ p H', H p = none → Same H H' → FormZ T.z T.a_Form H' p (addM f (negM g)) → Q (.ref p) H') : rBinO T.a_Form (sp_Form___sub T) E (.ref o) (.ref u) H Q := by
  obtain ⟨dx, fs, e⟩ := hf.ins
  obtain ⟨dy, gs, e2⟩ := hg.ins
  exact ⟨o, u, dx, dy, fs, gs, rfl, rfl, e, e2, f, g, hf, .inl ⟨u, rfl, hg⟩, fo, go, fun p H' p0 s hp => ⟨p, rfl, q p H' p0 s hp⟩⟩
theorem d_eq (hf : FormZ T.z T.a_Form H o f) (hg : FormZ T.z T.a_Form H u g) (q : Q (.bl (eqM f g)) H) : rEqO T.a_Form (sp_Form___eq T) E (.ref o) (.ref u) H Q := by
  obtain ⟨dx, fs, e⟩ := hf.ins
  obtain ⟨dy, gs, e2⟩ := hg.ins
  exact ⟨o, u, dx, dy, fs, gs, rfl, rfl, e, e2, f, g, hf, hg, eqM f g, rfl, q⟩
theorem d_ne (hf : FormZ T.z T.a_Form H o f) (hg : FormZ T.z T.a_Form H u g) (q : Q (.bl (!eqM f g)) H) : rNeO T.a_Form (sp_Form___eq T) E (.ref o) (.ref u) H Q := by
  obtain ⟨dx, fs, e⟩ := hf.ins
  obtain ⟨dy, gs, e2⟩ := hg.ins
  exact ⟨o, u, dx, dy, fs, gs, rfl, rfl, e, e2, f, g, hf, hg, eqM f g, rfl, q⟩
end
theorem TermsAt.ext {H H' : Hp} {g : Addr} {ts : List (Int × Int × List Str)} (h : TermsAt H g ts) (e : LamX.ExtN H H') : TermsAt H' g ts := by
  obtain ⟨vs, hv, p⟩ := h
  exact ⟨vs, e _ _ hv (fun _ z => by cases z), pd_mono p fun _ _ ⟨a, b, e1, h1, h2⟩ => ⟨a, b, e1, e _ _ h1 (fun _ z => by cases z), e _ _ h2 (fun _ z => by cases z)⟩⟩
section
variable {K : PySem.W.Frag} {mg : Str → Option Value} {T : Txt K mg} {H : Hp} {Q : VK} {E : XK} {o u : Addr} {f g : Fm} {n : Int} {σ : L2.St}
theorem d_terms (hf : FormZ T.z T.a_Form H o f) (fo : FOk f) (hT : LamX.Tabs (tabF T.tP) H) (q : ∀ g H', H g = none → LamX.ExtN H H' → LamX.Tabs (tabF T.tP) H' → TermsN H H' g (termsM f) → Q (.ref g) H') :
    ∃ a dx fs, V.ref o = V.ref a ∧ H a = some (.ins T.a_Form dx fs) ∧ List.lookup (Str.ofString "terms") fs = none ∧ tNil σ H fun vs H2 => sp_Form_terms T (.ref o :: (vs ++ [])) H2 Q E := by
  obtain ⟨dx, d, e, _⟩ := id hf
  exact ⟨o, dx, _, rfl, e, by rfl, f, hf, fo, hT, q⟩
theorem d_over (hf : FormZ T.z T.a_Form H o f) (fo : FOk f) (n0 : n ≠ 0) (nb : n.natAbs < 2 ^ 190) (q : ∀ p H', H p = none → Same H H' → FormZ T.z T.a_Form H' p (overM f n) → Q (.ref p) H') :
    ∃ a dx fs, V.ref o = V.ref a ∧ H a = some (.ins T.a_Form dx fs) ∧ List.lookup (Str.ofString "over") fs = none ∧ tCons (tC (.int n)) tNil σ H fun vs H2 => sp_Form_over T (.ref o :: (vs ++ [])) H2 Q E := by
  obtain ⟨dx, d, e, _⟩ := id hf
  exact ⟨o, dx, _, rfl, e, by rfl, f, hf, fo, n0, nb, q⟩
end
section
variable {K : PySem.W.Frag} {mg : Str → Option Value} {T : Txt K mg} {H : Hp} {Q : VK} {E : XK} {o u : Addr} {f g : Fm} {x : Str}
theorem d_put (hf : FormZ T.z T.a_Form H o f) (hg : FormZ T.z T.a_Form H u g) (lx : letB x = true) (ok : PutOk f x g) (q : ∀ p H', Same H H' → FormZ T.z T.a_Form H' p (putM f x g) → Q (.ref p) H') : sp_Form_put T [.ref o, .str x, .ref u] H Q E := ⟨f, g, hf, hg, lx, ok, q⟩
theorem FormZ.at_ {z : Pw} {C : Addr} (h : FormZ z C H o f) : ∃ dx d, H o = some (.ins C dx [("rows", .ref d), ("under", .int f.2)]) := by
  obtain ⟨dx, d, e, _⟩ := h
  exact ⟨dx, d, e⟩
end

end
end CP

namespace CP
open PySem L2
section
variable {P : Program} {w : World} {K : PySem.W.Frag} {mg : Str → Option Value} {base : Heap}
theorem cut_ints (ns : List Int) (lo hi : Option Int) : ∃ ms : List Int, cutV (ns.map V.int) lo hi = ms.map V.int := by
  unfold cutV
  rw [← List.map_drop, ← List.map_take]
  exact ⟨_, rfl⟩
/-- a purse from which at most c draws' steps were taken -/
def Pu (H : Hp) (p : Addr) (c : Int) : Prop := ∃ x y z i : Int, H p = some (.lst [.int x, .int y, .int z, .int i]) ∧ 0 ≤ x ∧ x < 10 ^ 480 ∧ 0 ≤ y ∧ y < 2147483629 ∧ 0 ≤ z ∧ z ≤ c ∧ 0 ≤ i ∧ i < 2 ^ 40
theorem Pu.mono {H H' : Hp} {p : Addr} {c : Int} (h : Pu H p c) (s : Same H H') : Pu H' p c := by
  obtain ⟨x, y, z, i, e, h⟩ := h
  exact ⟨x, y, z, i, CP.Same.to s e, h⟩
theorem Pu.sb {H H' : Hp} {p q : Addr} {c : Int} (h : Pu H p c) (s : SB q H H') (n : p ≠ q) : Pu H' p c := by
  obtain ⟨x, y, z, i, e, h⟩ := h
  exact ⟨x, y, z, i, s _ _ n e, h⟩
theorem Pu.up {H : Hp} {p : Addr} {c d : Int} (h : Pu H p c) (k : c ≤ d) : Pu H p d := by
  obtain ⟨x, y, z, i, e, h1, h2, h3, h4, h5, h6, h7⟩ := h
  exact ⟨x, y, z, i, e, h1, h2, h3, h4, h5, by omega, h7⟩
theorem Pu.some {H : Hp} {p : Addr} {c : Int} (h : Pu H p c) : ∃ o, H p = some o := by
  obtain ⟨x, y, z, i, e, _⟩ := h
  exact ⟨_, e⟩
theorem Pu.ne {H : Hp} {p q : Addr} {c : Int} (h : Pu H p c) (n : H q = none) : q ≠ p := by
  obtain ⟨o, e⟩ := h.some
  exact (ne_of_none e n).symm
/-- what is no such list stands beside a purse -/
theorem Pu.other {H : Hp} {p q : Addr} {c : Int} {o : HO} (h : Pu H p c) (e : H q = .some o) (n : ∀ x y z i : Int, o ≠ .lst [.int x, .int y, .int z, .int i]) : q ≠ p := fun k => by
  obtain ⟨x, y, z, i, e2, _⟩ := h
  rw [k, e2] at e
  exact n x y z i (Option.some.inj e).symm
theorem pow18 : CPw 10 18 := ⟨by decide, by decide, by decide +kernel⟩
theorem pow60 : CPw 10 60 := ⟨by decide, by decide, by decide +kernel⟩
theorem pow608 : CPw (10 ^ (60 : Int).toNat) 8 := ⟨by decide, by decide, by decide +kernel⟩
theorem pow480 : ((10 : Int) ^ (60 : Int).toNat) ^ (8 : Int).toNat = 10 ^ 480 := by decide +kernel
def sp_law_purse (_ : Txt K mg) : Sp := fun vs H Q _ => match vs with
  | [.ref a, .int i] => ∃ ns : List Int, SqL K H a (ns.map V.int) ∧ 0 ≤ i ∧ i < 2 ^ 40 ∧ ∀ p H', H p = none → Same H H' → Pu H' p 0 → Q (.ref p) H'
  | _ => False
@[reducible] def t_law_purse_0 (w : World) (T : Txt K mg) : TS := tRet (tLst (tCons (tOp oMod (tCB oMax2 (tCons (tOp oSub (tVar 2) (tOp oPow (tC (.int 10)) (tC (.int 18)))) (tCons (tC (.int 0)) (tNil)))) (tOp oPow (tOp oPow (tC (.int 10)) (tC (.int 60))) (tC (.int 8)))) (tCons (tOp oMod (tVar 2) (tC (.int 2147483629))) (tCons (tC (.int 0)) (tCons (tVar 1) (tNil))))))
def t_law_purse (w : World) (T : Txt K mg) : TS := tSeq (tAsg (tCB (rSum K) (tCons (tSl (rSlL K) (tVar 0) (tPart (tVar 1)) (tPart (tOp oAdd (tVar 1) (tC (.int 1))))) (tNil))) (gName 2)) (t_law_purse_0 w T)
theorem len_law_purse (T : Txt K mg) : ∀ (vs : List V) (H : Hp) (Q : VK) (E : XK), sp_law_purse T vs H Q E → vs.length = (["_law_script", "_law_at"] : List Str).length := by
  intro vs H Q E h
  unfold sp_law_purse at h
  split at h
  all_goals first | rfl | exact h.elim
theorem rd_law_purse (T : Txt K mg) (vs : List V) (H : Hp) (Q : VK) (E : XK) (h : sp_law_purse T vs H Q E) : t_law_purse w T { nx := fun _ H' => Q .non H', rt := Q } (start ["_law_script", "_law_at", "_law_seed"] vs) H := by
  match vs, h with
  | [.ref a, .int i], h =>
  obtain ⟨ns, ha, hi, hi2, q⟩ := h
  unfold t_law_purse
  walk_at "st"
  repeat walk_at "s"
  rename_i l H1 l0 s1 l1
  obtain ⟨ms, e⟩ := cut_ints ns (some i) (some (i + 1))
  rw [e] at l1
  refine r_sum (.of l1) ?_
  generalize ms.sum = c
  repeat walk_at "s"
  refine r_I pow18 ?_
  repeat walk_at "s"
  refine r_I pow60 ?_
  repeat walk_at "s"
  refine r_I pow608 ?_
  rw [pow480]
  refine r_I (by decide +kernel) ?_
  repeat walk_at "s"
  rename_i p H2 p0 s2 p1
  have t : (0 : Int) < 10 ^ 480 := by decide +kernel
  exact q p H2 (s1.free p0) (s1.trans s2) ⟨_, _, _, _, p1, Int.emod_nonneg _ (by omega), Int.emod_lt_of_pos _ t, by omega, by omega, by omega, by omega, hi, hi2⟩

theorem ok_law_purse (T : Txt K mg) : FnOk T.z.1 T.z.2 K mg base CX0 1 T.a_law_purse T.fd_law_purse ["_law_script", "_law_at"] (sp_law_purse T) :=
  T.F_law_purse.ok sc_law_purse (len_law_purse T) fun cdv A outer s H vs Q E hr h => ⟨t_law_purse T.z.2 T, (pss_cons (ps_set (i := 2) sc_law_purse.nd rfl (Or.inl rfl) (pe_callB (cr_sum rfl) (by rfl) T.n_sum (by decide +kernel) (pa_cons (pe_slice sl_list (pv 0) (po_some (pv 1)) (po_some (pe_op op_add (pv 1) pe_int))) pa_nil)))
      (pss_one (ps_ret (pe_lst (pa_cons (pe_op op_mod (pe_callB (call_maxA rfl) (by rfl) T.n_max (by decide +kernel) (pa_cons (pe_op op_sub (pv 2) (pe_op op_powW pe_int pe_int)) (pa_cons pe_int pa_nil))) (pe_op op_powW (pe_op op_powW pe_int pe_int) pe_int)) (pa_cons (pe_op op_mod (pv 2) pe_int) (pa_cons pe_int (pa_cons (pv 1) pa_nil)))))))), rd_law_purse T vs H Q E h⟩
end
end CP

namespace CP
open PySem L2
section
variable {P : Program} {w : World} {K : PySem.W.Frag} {mg : Str → Option Value} {base : Heap}
/-- Euclid's turns, so many at most -/
def euc : Nat → Int → Int → Int
  | 0, a, _ => (a.natAbs : Int)
  | k + 1, a, b => if b = 0 then (a.natAbs : Int) else euc k b (a.fmod b)
def fibP : Nat → Nat × Nat
  | 0 => (0, 1)
  | k + 1 => ((fibP k).2, (fibP k).1 + (fibP k).2)
def fibN (k : Nat) : Nat := (fibP k).1
theorem fib_step (k : Nat) : fibN (k + 2) = fibN k + fibN (k + 1) := rfl
theorem fib_big : 2 ^ 200 < fibN 300 := by decide +kernel
theorem euc_ok : ∀ (k : Nat) (a b : Int), 0 ≤ b → b < a → (b < fibN (k + 1) ∨ a < fibN (k + 2)) → euc k a b = (Int.gcd a b : Nat)
  | 0, a, b, b0, ba, h => by
    have e1 : fibN (0 + 1) = 1 := rfl
    have e2 : fibN (0 + 2) = 1 := rfl
    rw [e1, e2] at h
    obtain rfl : b = 0 := by omega
    rw [Int.gcd_zero_right]
    rfl
  | k + 1, a, b, b0, ba, h => by
    unfold euc
    by_cases z : b = 0
    · rw [if_pos z, z, Int.gcd_zero_right]
    · rw [if_neg z]
      have bp : 0 < b := by omega
      have e : a.fmod b = a % b := Int.fmod_eq_emod_of_nonneg a b0
      have r0 := Int.emod_nonneg a z
      have r1 := Int.emod_lt_of_pos a bp
      have dm := Int.emod_add_mul_ediv a b
      have q1 : 1 ≤ a / b := by
        rw [Int.le_ediv_iff_mul_le bp]
        omega
      have mb : b * 1 ≤ b * (a / b) := Int.mul_le_mul_of_nonneg_left q1 b0
      have fs := fib_step (k + 1)
      rw [euc_ok k b (a.fmod b) (by rw [e]; exact r0) (by rw [e]; exact r1) (by
        rw [e]
        rcases h with h | h
        · exact .inr h
        · by_cases c : b < fibN (k + 2)
          · exact .inr c
          · refine .inl ?_
            have fs2 : fibN (k + 1 + 2) = fibN (k + 1) + fibN (k + 1 + 1) := fs
            have e3 : k + 1 + 1 = k + 2 := rfl
            rw [e3] at fs2
            omega)]
      rw [gcd_fmod]
theorem euc_300 {a b : Int} (b0 : 0 ≤ b) (hb : b < 2 ^ 200) : euc 300 a b = (Int.gcd a b : Nat) := by
  unfold euc
  by_cases z : b = 0
  · rw [if_pos z, z, Int.gcd_zero_right]
  · rw [if_neg z]
    have bp : 0 < b := by omega
    have e : a.fmod b = a % b := Int.fmod_eq_emod_of_nonneg a b0
    rw [euc_ok 299 b (a.fmod b) (by rw [e]; exact Int.emod_nonneg a z) (by rw [e]; exact Int.emod_lt_of_pos a bp) (.inr (by
      have f1 := fib_big
      have f2 : fibN (299 + 2) = fibN 299 + fibN 300 := rfl
      have e1 : ((2 ^ 200 : Nat) : Int) = 2 ^ 200 := Int.natCast_pow 2 200
      rw [← e1] at hb
      generalize (2 : Nat) ^ 200 = N at *
      omega)), gcd_fmod]
def sp_law_common (_ : Txt K mg) : Sp := fun vs H Q _ => match vs with
  | [.int a, .int b] => 0 ≤ b ∧ b < 2 ^ 200 ∧ Q (.int (Int.gcd a b : Nat)) H
  | _ => False
@[reducible] def t_law_common_0 (w : World) (T : Txt K mg) : TS := tPar 0 1 (tCons (tVar 1) (tCons (tOp oModN (tVar 0) (tVar 1)) (tNil)))
@[reducible] def t_law_common_1 (w : World) (T : Txt K mg) : TS := tSeq (tIfS (tTest (tOp rEq (tVar 1) (tC (.int 0)))) (tRet (tCB oAbs (tCons (tVar 0) (tNil)))) (tNext)) (t_law_common_0 w T)
def t_law_common (w : World) (T : Txt K mg) : TS := tSeq (tFor (iRng1 (tCons (tC (.int 300)) (tNil))) (gName 2) (t_law_common_1 w T)) (tRet (tCB oAbs (tCons (tVar 0) (tNil))))
theorem len_law_common (T : Txt K mg) : ∀ (vs : List V) (H : Hp) (Q : VK) (E : XK), sp_law_common T vs H Q E → vs.length = (["_law_one", "_law_other"] : List Str).length := by
  intro vs H Q E h
  unfold sp_law_common at h
  split at h
  all_goals first | rfl | exact h.elim
theorem rd_law_common (T : Txt K mg) (vs : List V) (H : Hp) (Q : VK) (E : XK) (h : sp_law_common T vs H Q E) : t_law_common w T { nx := fun _ H' => Q .non H', rt := Q } (start ["_law_one", "_law_other", "_law_turn"] vs) H := by
  match vs, h with
  | [.int a, .int b], h =>
  obtain ⟨b0, hb, q⟩ := h
  have g := euc_300 (a := a) b0 hb
  generalize hG : euc 300 a b = G at g
  have ab : ∀ x : Int, (if x < 0 then -x else x) = (x.natAbs : Int) := fun x => by split <;> omega
  unfold t_law_common
  walk_at "st"
  repeat walk_at "w"
  refine for_range (fun i σ H' => H' = H ∧ ∃ x y z, euc (300 - i) x y = G ∧ σ = [some (.int x), some (.int y), z]) ⟨rfl, _, _, _, hG, rfl⟩ ?_ ?_
  · rintro i σ H1 hi ⟨rfl, x, y, z, e, rfl⟩
    have i3 : i < 300 := hi
    have s : 300 - i = (300 - (i + 1)) + 1 := by omega
    rw [s] at e
    unfold euc at e
    repeat walk_at "w"
    refine if_d (fun k => ?_) fun k => ?_
    · rw [if_pos k] at e
      repeat walk_at "w"
      rw [ab, e, g]
      exact q
    · rw [if_neg k] at e
      repeat walk_at "w"
      exact ⟨rfl, _, _, _, e, rfl⟩
  · rintro σ H1 ⟨rfl, x, y, z, e, rfl⟩
    have e : (x.natAbs : Int) = G := e
    repeat walk_at "w"
    rw [ab, e, g]
    exact q

theorem ok_law_common (T : Txt K mg) : FnOk T.z.1 T.z.2 K mg base CX0 1 T.a_law_common T.fd_law_common ["_law_one", "_law_other"] (sp_law_common T) :=
  T.F_law_common.ok sc_law_common (len_law_common T) fun cdv A outer s H vs Q E hr h => ⟨t_law_common T.z.2 T, (pss_cons (ps_for PassesOwn.never rfl (pi_range1 (by rfl) T.n_range (pa_cons pe_int pa_nil)) (pg_name (i := 2) sc_law_common.nd rfl (Or.inl rfl)) (pss_cons (ps_if (pt_cmpR op_eq (pv 1) pe_int (nomark _)) (pss_one (ps_ret (pe_callB call_absA (by rfl) T.n_abs (by decide +kernel) (pa_cons (pv 0) pa_nil)))) pss_nil)
      (pss_one (ps_par (i := 0) (j := 1) rfl sc_law_common.nd rfl rfl (by decide) rfl rfl (pa_cons (pv 1) (pa_cons (pe_op op_modN (pv 0) (pv 1)) pa_nil)) (by rfl)))))
      (pss_one (ps_ret (pe_callB call_absA (by rfl) T.n_abs (by decide +kernel) (pa_cons (pv 0) pa_nil))))), rd_law_common T vs H Q E h⟩
end
end CP

namespace CP
open PySem L2
section
variable {P : Program} {w : World} {K : PySem.W.Frag} {mg : Str → Option Value} {base : Heap}
/-- a form whose terms are told -/
structure TmOk (f : Fm) : Prop where
  ok : FOk f
  nz : ∀ r ∈ f.1, r.2 ≠ 0
  so : ∀ r ∈ f.1, srt r.1 = r.1
  deg : ∀ r ∈ f.1, r.1.length < 64
  few : (letsM f).length < 64
  den : f.2 ^ f.1.length < 2 ^ 7000
structure ValOk (f : Fm) (kv : List (Str × Int)) : Prop where
  lets : ∀ p ∈ kv, letB p.1 = true
  nd : (kv.map (·.1)).Nodup
  few : kv.length < 2000
  val : ∀ r ∈ f.1, ∀ w ∈ r.1, (getD kv w).isSome = true ∧ (atD kv w).natAbs < 2 ^ 400
  prod : ∀ r ∈ f.1, ∀ j, (r.2 * prodF (atD kv) (r.1.take j)).natAbs < 2 ^ 4000
/-- a list of names, read off -/
def NmAt (H : Hp) (v : V) (p : List Str) : Prop := ∃ b, v = .ref b ∧ H b = some (.lst (strL p))
theorem nms_dp {K : PySem.W.Frag} {H : Hp} : ∀ {ws : List V} {ps : List (List Str)}, Paired (NmAt H) ws ps → DpAll K H ws (ps.map fun p => .list (p.map .str))
  | _, _, .nil => .nil
  | _, _, .cons ⟨b, e, h⟩ t => by
    subst e
    exact .cons (.lst (.of h) (dpA_strs _)) (nms_dp t)
theorem nms_sh {p : List Str} (h : ∀ w ∈ p, letB w = true) : SeqAt.shaped (.list (p.map .str)) = true ∧ (PyData.list (p.map .str)).depth ≤ 60 := by
  obtain ⟨x1, x2⟩ := lay_strs (xs := p) fun x hx => let_lay (h x hx)
  refine ⟨?_, by simp [PyData.depth, x2]⟩
  show (PyData.canLay0 (.list (p.map .str)) && decide (PyData.depth (.list (p.map .str)) ≤ 64)) = true
  simp [PyData.canLay0, PyData.depth, x1, x2]
theorem terms_names (f : Fm) : (termsM f).map (·.2.2) = ordP (f.1.map (·.1)) := by
  unfold termsM
  rw [List.map_map]
  have : ((fun t : Int × Int × List Str => t.2.2) ∘ termM f) = id := rfl
  rw [this, List.map_id]
/-- the names and how many, in a tuple -/
def EncLAt (H : Hp) (v : V) (p : List Str) : Prop := ∃ t b, v = .ref t ∧ H t = some (.tup [.int p.length, .ref b]) ∧ H b = some (.lst (strL p))
theorem EncLAt.mono {H H' : Hp} {v : V} {p : List Str} (h : EncLAt H v p) (s : Same H H') : EncLAt H' v p := let ⟨t, b, e, h1, h2⟩ := h; ⟨t, b, e, s _ _ h1, s _ _ h2⟩
theorem encs_dp {K : PySem.W.Frag} {H : Hp} : ∀ {ws : List V} {ps : List (List Str)}, Paired (EncLAt H) ws ps → DpAll K H ws (ps.map encL)
  | _, _, .nil => .nil
  | _, _, .cons ⟨t, b, e, h1, h2⟩ r => by
    subst e
    exact .cons (.tup (.of h1) (.cons (.int _) (.cons (.lst (.of h2) (dpA_strs _)) .nil))) (encs_dp r)
theorem encs_sh : ∀ {ps : List (List Str)}, (∀ p ∈ ps, ∀ w ∈ p, letB w = true) → PyData.canLayAll0 (ps.map encL) = true ∧ PyData.depthAll (ps.map encL) ≤ 3
  | [], _ => ⟨by simp [PyData.canLayAll0], by simp [PyData.depthAll]⟩
  | p :: ps, h => by
    obtain ⟨i1, i2⟩ := encs_sh fun q hq => h q (List.mem_cons_of_mem _ hq)
    obtain ⟨x1, x2⟩ := lay_strs (xs := p) fun x hx => let_lay (h p (List.mem_cons_self ..) x hx)
    refine ⟨?_, ?_⟩
    · simp [PyData.canLayAll0, encL, PyData.canLay0, x1, i1]
    · simp only [List.map_cons, PyData.depthAll, encL, PyData.depth, x2]
      omega
theorem encs_alike (ps : List (List Str)) : PySem.W.AllAlike (ps.map encL) := PySem.W.AllAlike.of fun p q => by
  unfold encL
  simp only [PySem.W.alike, PySem.W.alikeAll, alike_strs, Bool.and_self]
def sp_law_terms_right (T : Txt K mg) : Sp := fun vs H Q _ => match vs with
  | [.ref a, .ref d, .ref o] => ∃ f kv, TermsAt H a (termsM f) ∧ FormZ T.z T.a_Form H o f ∧ TmOk f ∧ ValOk f kv ∧ H d = some (.dK (dV kv)) ∧ ∀ H', Same H H' → Q (.bl true) H'
  | _ => False
@[reducible] def t_law_terms_right_0 (w : World) (T : Txt K mg) : TS := tAsg (tOp oMul (tVar 6) (tDGet (tVar 1) (tVar 9))) (gName 6)
@[reducible] def t_law_terms_right_1 (w : World) (T : Txt K mg) : TS := tPar 3 4 (tCons (tOp oAdd (tOp oMul (tVar 3) (tVar 7)) (tOp oMul (tVar 6) (tVar 4))) (tCons (tOp oMul (tVar 4) (tVar 7)) (tNil)))
@[reducible] def t_law_terms_right_2 (w : World) (T : Txt K mg) : TS := tSeq (tFor (iList K (tVar 8)) (gName 9) (t_law_terms_right_0 w T)) (t_law_terms_right_1 w T)
@[reducible] def t_law_terms_right_3 (w : World) (T : Txt K mg) : TS := tSeq (tDrop (tBM K "list" rAppend (tVar 5) (tCons (tVar 8) (tNil)))) (t_law_terms_right_2 w T)
@[reducible] def t_law_terms_right_4 (w : World) (T : Txt K mg) : TS := tSeq (tIfS (tOr (tTest (tOp rEq (tVar 6) (tC (.int 0)))) (tOr (tTest (tOp oLt (tVar 7) (tC (.int 1)))) (tOr (tTest (tOp rNe (tCall (sp_law_common T) [] E0 (tCons (tVar 6) (tCons (tVar 7) (tNil)))) (tC (.int 1)))) (tOr (tTest (tOp (rNeX K) (tVar 8) (tCB (rSortedS K) (tCons (tVar 8) (tNil))))) (tTest (tOp (rInD K false) (tVar 8) (tVar 5))))))) (tRet (tC (.bl false))) (tNext)) (t_law_terms_right_3 w T)
@[reducible] def t_law_terms_right_5 (w : World) (T : Txt K mg) : TS := tRet (tOp (rEqX K) (tMeth T.a_Form "at" (sp_Form_at T) [] E0 (tVar 2) (tCons (tVar 1) (tNil))) (tIf (tTest (tOp rEq (tOp oModN (tVar 3) (tVar 4)) (tC (.int 0)))) (tOp oDiv (tVar 3) (tVar 4)) (tC .non)))
@[reducible] def t_law_terms_right_6 (w : World) (T : Txt K mg) : TS := tSeq (tIfS (tTest (tOp (rNeX K) (tLc (iList K (tVar 5)) (gName 8) (tYes) (tTup (tCons (tCB (rLenA K) (tCons (tVar 8) (tNil))) (tCons (tVar 8) (tNil)))) [8]) (tCB (rSortedD K) (tCons (tLc (iList K (tVar 5)) (gName 8) (tYes) (tTup (tCons (tCB (rLenA K) (tCons (tVar 8) (tNil))) (tCons (tVar 8) (tNil)))) [8]) (tNil))))) (tRet (tC (.bl false))) (tNext)) (t_law_terms_right_5 w T)
@[reducible] def t_law_terms_right_7 (w : World) (T : Txt K mg) : TS := tSeq (tFor (iList K (tVar 0)) (gTup K 3 (gCons (gName 6) (gCons (gName 7) (gCons (gName 8) gNil)))) (t_law_terms_right_4 w T)) (t_law_terms_right_6 w T)
def t_law_terms_right (w : World) (T : Txt K mg) : TS := tSeq (tPar3 3 4 5 (tCons (tC (.int 0)) (tCons (tC (.int 1)) (tCons (tLst (tNil)) (tNil))))) (t_law_terms_right_7 w T)
theorem len_law_terms_right (T : Txt K mg) : ∀ (vs : List V) (H : Hp) (Q : VK) (E : XK), sp_law_terms_right T vs H Q E → vs.length = (["_law_terms", "_law_values_here", "_law_form_here"] : List Str).length := by
  intro vs H Q E h
  unfold sp_law_terms_right at h
  split at h
  all_goals first | rfl | exact h.elim
theorem rd_law_terms_right (T : Txt K mg) (vs : List V) (H : Hp) (Q : VK) (E : XK) (h : sp_law_terms_right T vs H Q E) : t_law_terms_right w T { nx := fun _ H' => Q .non H', rt := Q } (start ["_law_terms", "_law_values_here", "_law_form_here", "_law_above", "_law_under", "_law_seen", "_law_many", "_law_bottom", "_law_names_here", "_law_name"] vs) H := by
  match vs, h with
  | [.ref a, .ref d, .ref o], h =>
  obtain ⟨f, kv, ⟨us, ha, pt⟩, ho, tm, vo, hd, q⟩ := h
  have szl : sizeLine = 16777216 := rfl
  have fo := tm.ok
  have ul := pd_len pt
  have pm := ordP_perm (f.1.map (·.1))
  have tl : (termsM f).length = f.1.length := by unfold termsM; rw [List.length_map, pm.length_eq, List.length_map]
  have few := fo.few
  have key : ∀ {i : Nat} {t : Int × Int × List Str}, (termsM f)[i]? = some t → ∃ r ∈ f.1, t = termM f r.1 ∧ getT f.1 r.1 = r.2 := fun {i t} h => by
    unfold termsM at h
    rw [List.getElem?_map] at h
    obtain ⟨p, hp, e⟩ := Option.map_eq_some_iff.mp h
    obtain ⟨r, hr, er⟩ := List.mem_map.mp (pm.mem_iff.mp (List.mem_of_getElem? hp))
    exact ⟨r, hr, by rw [← e, er], getT_mem fo.nd hr⟩
  unfold t_law_terms_right
  walk_at "st"
  repeat walk_at "w"
  rename_i sn H1 sn0 s1 hsn
  have asn : a ≠ sn := ne_of_none ha sn0
  have ha1 := CP.Same.to s1 ha
  refine ⟨a, rfl, ⟨us, .of ha1⟩, for_list (K := K) (a := a) (xs := us) (fun i σ H' => SB sn H1 H' ∧ (∃ ws, H' sn = some (.lst ws) ∧ Paired (NmAt H) ws (((termsM f).take i).map (·.2.2))) ∧ ∃ x6 x7 x8 x9, σ = [some (.ref a), some (.ref d), some (.ref o), some (.int (((termsM f).take i).foldl (tmStep (atD kv)) (0, 1)).1), some (.int (((termsM f).take i).foldl (tmStep (atD kv)) (0, 1)).2), some (.ref sn), x6, x7, x8, x9]) ⟨fun _ _ _ e => e, ⟨[], hsn, .nil⟩, _, _, _, _, rfl⟩ (fun i σ H' _ w => .of (w.1 _ _ asn ha1)) ?_ ?_⟩
  · rintro i x σ H2 hx ⟨b2, ⟨ws, hw, pw⟩, x6, x7, x8, x9, rfl⟩
    obtain ⟨t, ht, tt, bb, rfl, h1, h2⟩ := pd_get pt hx
    have S2 : Same H H2 := CP.Same.sb s1 sn0 b2
    have h20 := h2
    have h1 := CP.Same.to S2 h1
    have h2 := CP.Same.to S2 h2
    obtain ⟨r, hr, rfl, eg⟩ := key ht
    generalize hs : ((termsM f).take i).foldl (tmStep (atD kv)) (0, 1) = st
    obtain ⟨e1, t1, t2, t3, gc⟩ := term_is fo r.1
    rw [eg] at e1 t3
    have mz : (termM f r.1).1 ≠ 0 := fun z => by
      rw [z, Int.zero_mul] at e1
      rcases Int.mul_eq_zero.mp e1.symm with k | k
      · exact tm.nz r hr k
      · omega
    have e0 : (termM f r.1).2.2 = r.1 := rfl
    have lts := (fo.lets r hr).1
    have bnd := fo.num r hr
    have fp := fo.pos
    have dg := tm.deg r hr
    rw [e0] at h2 h20
    have ij := ht
    generalize hm : (termM f r.1).1 = m at *
    generalize hbt : (termM f r.1).2.1 = bt at *
    repeat walk_at "w"
    rw [decide_eq_false mz]
    repeat walk_at "w"
    rw [decide_eq_false (show ¬ bt < 1 by omega)]
    repeat walk_at "w"
    refine ⟨by omega, by omega, ?_⟩
    rw [gc]
    repeat walk_at "w"
    rw [show (!decide (((1 : Nat) : Int) = 1)) = false from rfl]
    repeat walk_at "w"
    refine ⟨bb, r.1, rfl, .of h2, dg, fun ys y hy hso y0 => ?_⟩
    obtain rfl : ys = r.1 := by rw [srt_of hy hso, tm.so r hr]
    have s3 : Same H2 (upd H2 y (.lst (r.1.map V.str))) := same_new y0
    have hy3 : (upd H2 y (.lst (r.1.map V.str))) y = some (.lst (strL r.1)) := upd_same
    generalize upd H2 y (.lst (r.1.map V.str)) = H3 at *
    have lay : ∀ x ∈ r.1, (PyData.str x).canLay0 = true := fun x hx => let_lay (lts x hx)
    refine strs_neX (.of (CP.Same.to s3 h2)) (.of hy3) lay lay ?_
    rw [decide_eq_true rfl]
    repeat walk_at "w"
    refine ⟨sn, ws, _, _, rfl, .of (CP.Same.to s3 hw), .lst (.of (CP.Same.to s3 h2)) (dpA_strs _), nms_dp (pd_mono pw fun _ _ ⟨b, e, hb⟩ => ⟨b, e, CP.Same.to (S2.trans s3) hb⟩), (nms_sh lts).1, fun e he => ?_, ?_⟩
    · obtain ⟨p, hp, rfl⟩ := List.mem_map.mp he
      obtain ⟨t, htm, rfl⟩ := List.mem_map.mp hp
      obtain ⟨k, hk, ek⟩ := List.mem_iff_getElem.mp htm
      rw [List.length_take] at hk
      rw [List.getElem_take] at ek
      have kt : (termsM f)[k]? = some t := by rw [← ek]; exact List.getElem?_eq_getElem (by omega)
      obtain ⟨r2, hr2, rfl, _⟩ := key kt
      have lt2 := (fo.lets r2 hr2).1
      have ne : r2.1 ≠ r.1 := fun z => by
        have nd : (ordP (f.1.map (·.1))).Nodup := pm.nodup_iff.mpr fo.nd
        rw [← terms_names f] at nd
        have k1 : ((termsM f).map (·.2.2))[k]? = some r2.1 := by rw [List.getElem?_map, kt]; rfl
        have k2 : ((termsM f).map (·.2.2))[i]? = some r.1 := by rw [List.getElem?_map, ij]; rfl
        have := (List.getElem?_inj (by rw [List.length_map]; omega) nd).mp (k1.trans ((congrArg some z).trans k2.symm))
        omega
      refine ⟨(nms_sh lt2).1, (nms_sh lt2).2, ?_⟩
      have ev : PyData.eqv (.list (r2.1.map .str)) (.list (r.1.map .str)) = decide (r2.1 = r.1) := by simp only [PyData.eqv]; exact eqv_strs _ _
      show PyData.eqv (.list ((termM f r2.1).2.2.map .str)) _ = false
      rw [show (termM f r2.1).2.2 = r2.1 from rfl, ev]
      exact decide_eq_false ne
    repeat walk_at "w"
    refine ⟨.inl ⟨rfl, _, .of (CP.Same.to s3 hw)⟩, ?_⟩
    have wl := pd_len pw
    rw [List.length_map, List.length_take] at wl
    have snb : bb ≠ sn := ne_of_none h20 sn0
    have dsn : d ≠ sn := ne_of_none hd sn0
    repeat walk_at "w"
    refine r_app (CP.Same.to s3 hw) (by omega) fun H4 b4 hw4 => ?_
    have B4 : SB sn H1 H4 := SB.trans' b2 (SB.trans' (Same.sb' s3) b4)
    have S4 : Same H H4 := CP.Same.sb s1 sn0 B4
    repeat walk_at "w"
    have h24 := CP.Same.to S4 h20
    have prd := vo.prod r hr
    refine ⟨bb, rfl, ⟨_, .of h24⟩, for_list (K := K) (a := bb) (xs := strL r.1) (fun j σ H' => Same H4 H' ∧ ∃ x9, σ = [some (.ref a), some (.ref d), some (.ref o), some (.int st.1), some (.int st.2), some (.ref sn), some (.int (m * prodF (atD kv) (r.1.take j))), some (.int bt), some (.ref bb), x9]) ⟨Same.refl _, _, by rw [List.take_zero, show prodF (atD kv) [] = 1 from rfl, Int.mul_one]⟩ (fun j σ H' _ w => .of (CP.Same.to w.1 h24)) ?_ ?_⟩
    · rintro j v σ H5 hv ⟨s5, x9, rfl⟩
      obtain ⟨w, hw2, rfl⟩ := strL_get hv
      have hd5 := CP.Same.to (S4.trans s5) hd
      obtain ⟨g1, g2⟩ := vo.val r hr w (List.mem_of_getElem? hw2)
      obtain ⟨n, gn⟩ := Option.isSome_iff_exists.mp g1
      have an : atD kv w = n := by unfold atD; rw [gn]; rfl
      have mp := prd j
      have mb : (m * prodF (atD kv) (r.1.take j)).natAbs < 2 ^ 4000 := by
        rw [Int.natAbs_mul] at mp ⊢
        exact Nat.lt_of_le_of_lt (Nat.mul_le_mul_right _ t3) mp
      rw [an] at g2
      repeat walk_at "w"
      refine r_dgetS hd5 (v := .int n) (by rw [dV_val, gn]; rfl) ?_
      refine r_I (wide_mul (a := 4000) (b := 400) mb g2 (by decide) (by decide) (by decide)) ?_
      repeat walk_at "w"
      refine ⟨s5, some (.str w), ?_⟩
      rw [take_succ hw2, prodF_append, prodF_cons, show prodF (atD kv) [] = 1 from rfl, an, Int.mul_one, Int.mul_assoc]
    · rintro σ H5 ⟨s5, x9, rfl⟩
      rw [show (strL r.1).length = r.1.length from List.length_map _, List.take_length]
      have mp := prd r.1.length
      rw [List.take_length] at mp
      have mb : (m * prodF (atD kv) r.1).natAbs < 2 ^ 4000 := by
        rw [Int.natAbs_mul] at mp ⊢
        exact Nat.lt_of_le_of_lt (Nat.mul_le_mul_right _ t3) mp
      obtain ⟨z1, z2, z3⟩ := tm_size fo (v := atD kv) (fun r hr => by have := vo.prod r hr r.1.length; rwa [List.take_length] at this) tm.den i
      rw [hs] at z1 z2 z3
      have bb2 : bt.natAbs < 2 ^ 200 := by
        have e1 : ((2 ^ 200 : Nat) : Int) = 2 ^ 200 := Int.natCast_pow 2 200
        have := fp.2
        rw [← e1] at this
        generalize (2 : Nat) ^ 200 = N at *
        omega
      have u2 : st.2.natAbs < 2 ^ 7000 := by
        have e1 : ((2 ^ 7000 : Nat) : Int) = 2 ^ 7000 := Int.natCast_pow 2 7000
        rw [← e1] at z3
        omega
      repeat walk_at "w"
      refine r_I (wide_mul (a := 11100) (b := 200) z1 bb2 (by decide) (by decide) (by decide)) ?_
      repeat walk_at "w"
      refine r_I (wide_mul (a := 4000) (b := 7000) mb u2 (by decide) (by decide) (by decide)) ?_
      repeat walk_at "w"
      refine r_I (wide_mul (a := 7000) (b := 200) u2 bb2 (by decide) (by decide) (by decide)) ?_
      repeat walk_at "w"
      have ts : (termsM f).take (i + 1) = (termsM f).take i ++ [termM f r.1] := take_succ ij
      refine ⟨SB.trans' B4 (Same.sb' s5), ⟨_, CP.Same.to s5 hw4, ?_⟩, some (.int (m * prodF (atD kv) r.1)), some (.int bt), some (.ref bb), x9, ?_⟩
      · rw [ts, List.map_append]
        exact pd_app pw (pd_one ⟨bb, rfl, h20⟩)
      · rw [ts, List.foldl_append, hs]
        show _ = [some (V.ref a), some (V.ref d), some (V.ref o), some (V.int (st.1 * (termM f r.1).2.1 + (termM f r.1).1 * prodF (atD kv) r.1 * st.2)), some (V.int (st.2 * (termM f r.1).2.1)), _, _, _, _, _]
        rw [hm, hbt]
  · rintro σ H2 ⟨b2, ⟨ws, hw, pw⟩, x6, x7, x8, x9, rfl⟩
    rw [ul, List.take_length]
    rw [ul, List.take_length, terms_names] at pw
    have S2 : Same H H2 := CP.Same.sb s1 sn0 b2
    repeat walk_at "w"
    have wl := pd_len pw
    have ol : (ordP (f.1.map (·.1))).length = f.1.length := by rw [pm.length_eq, List.length_map]
    have comp : ∀ (i : Nat) (x : V) (p : List Str), ws[i]? = some x → (ordP (f.1.map (·.1)))[i]? = some p → NmAt H x p := fun i x p hx hp => by
      obtain ⟨p2, hp2, h⟩ := pd_get pw hx
      rw [hp] at hp2
      obtain rfl := Option.some.inj hp2
      exact h
    have fm : ((ordP (f.1.map (·.1))).map some).filterMap id = ordP (f.1.map (·.1)) := by
      rw [List.filterMap_map]
      exact List.filterMap_some
    refine ⟨sn, rfl, ⟨ws, .of hw⟩, fun D D0 => lc_tell EncLAt ((ordP (f.1.map (·.1))).map some) D0 (.of hw) (by rw [List.length_map]; exact wl) (by rw [List.length_map]; omega) (fun _ _ _ _ s h => h.mono s) (fun k x op H3 hx hop s3 hacc N no yes => ?_) fun H3 acc s3 hD pD => ?_⟩
    · rw [List.getElem?_map] at hop
      obtain ⟨p, hp, rfl⟩ := Option.map_eq_some_iff.mp hop
      obtain ⟨bb, rfl, hbb⟩ := comp k x p hx hp
      have h3 := CP.Same.to (S2.trans s3) hbb
      repeat walk_at "w"
      refine ⟨rfl, r_yes (if_t ?_)⟩
      repeat walk_at "w"
      rename_i tp H4 tp0 s4 htp
      rw [strL_len] at htp
      obtain ⟨dacc, hda⟩ := hacc
      refine yes H4 _ _ rfl s4 ⟨tp, bb, rfl, ?_, ?_⟩
      · rw [hide_ne (fun z => by rw [z, hda] at tp0; cases tp0)]
        exact htp
      · rw [hide_ne (ne_of_none (CP.Same.to S2 hbb) D0)]
        exact CP.Same.to s4 h3
    rw [fm] at pD
    have S3 := S2.trans s3
    have hw3 := CP.Same.to s3 hw
    repeat walk_at "w"
    refine ⟨sn, rfl, ⟨ws, .of hw3⟩, fun E E0 => lc_tell EncLAt ((ordP (f.1.map (·.1))).map some) E0 (.of hw3) (by rw [List.length_map]; exact wl) (by rw [List.length_map]; omega) (fun _ _ _ _ s h => h.mono s) (fun k x op H3 hx hop s3 hacc N no yes => ?_) fun H4 acc2 s4 hE pE => ?_⟩
    · rw [List.getElem?_map] at hop
      obtain ⟨p, hp, rfl⟩ := Option.map_eq_some_iff.mp hop
      obtain ⟨bb, rfl, hbb⟩ := comp k x p hx hp
      have h3 := CP.Same.to (S3.trans s3) hbb
      repeat walk_at "w"
      refine ⟨rfl, r_yes (if_t ?_)⟩
      repeat walk_at "w"
      rename_i tp H4 tp0 s4 htp
      rw [strL_len] at htp
      obtain ⟨dacc, hda⟩ := hacc
      refine yes H4 _ _ rfl s4 ⟨tp, bb, rfl, ?_, ?_⟩
      · rw [hide_ne (fun z => by rw [z, hda] at tp0; cases tp0)]
        exact htp
      · rw [hide_ne (ne_of_none (CP.Same.to S3 hbb) E0)]
        exact CP.Same.to s4 h3
    rw [fm] at pE
    have let_ : ∀ p ∈ ordP (f.1.map (·.1)), ∀ w ∈ p, letB w = true := fun p hp => by
      obtain ⟨r, hr, rfl⟩ := List.mem_map.mp (pm.mem_iff.mp hp)
      exact (fo.lets r hr).1
    obtain ⟨c1, c2⟩ := encs_sh let_
    have S4 := S3.trans s4
    repeat walk_at "w"
    refine ⟨E, acc2, _, rfl, .of hE, encs_dp pE, encs_alike _, PySem.W.Sortable.tuples fun p => ⟨_, _, rfl⟩, fun dd hdd => ?_, fun ys y dpy yl y0 => ?_⟩
    · obtain ⟨p, hp, rfl⟩ := List.mem_map.mp hdd
      obtain ⟨_, x2⟩ := lay_strs (xs := p) fun x hx => let_lay (let_ p hp x hx)
      simp [encL, PyData.depth, PyData.depthAll, x2]
    rw [encL_sorted] at dpy
    have s5 : Same H4 (upd H4 y (.lst ys)) := same_new y0
    have hy5 : (upd H4 y (.lst ys)) y = some (.lst ys) := upd_same
    have sh : SeqAt.shaped (.list ((ordP (f.1.map (·.1))).map encL)) = true := by
      refine Bool.and_eq_true_iff.mpr ⟨by simpa [PyData.canLay0] using c1, decide_eq_true ?_⟩
      simp only [PyData.depth]
      omega
    have rf : PyData.eqv (.list ((ordP (f.1.map (·.1))).map encL)) (.list ((ordP (f.1.map (·.1))).map encL)) = true := by
      simp only [PyData.eqv]
      exact SeqAt.eqvAll_refl _ c1
    have S5 := S4.trans s5
    have dp1 := encs_dp (K := K) (pd_mono pD fun _ _ h => (h.mono s4).mono s5)
    have hD5 := CP.Same.to s5 (CP.Same.to s4 hD)
    have dp2 : DpAll K (upd H4 y (.lst ys)) ys ((ordP (f.1.map (·.1))).map encL) := dpA_same s5 _ _ dpy
    generalize upd H4 y (.lst ys) = H5 at *
    refine .inr (.inl ⟨_, _, .lst (.of hD5) dp1, .lst (.of hy5) dp2, sh, sh, ?_⟩)
    rw [rf]
    repeat walk_at "w"
    have ho5 := ho.mono S5
    obtain ⟨dx, _, hox, _⟩ := id ho5
    refine ⟨o, dx, _, rfl, hox, by rfl, ?_⟩
    repeat walk_at "w"
    refine ⟨f, kv, ho5, fo, tm.few, CP.Same.to S5 hd, vo.lets, vo.nd, vo.few, vo.val, vo.prod, fun H6 s6 => ?_⟩
    repeat walk_at "w"
    obtain ⟨z1, z2, z3⟩ := tm_size fo (v := atD kv) (fun r hr => by have := vo.prod r hr r.1.length; rwa [List.take_length] at this) tm.den (termsM f).length
    rw [List.take_length] at z1 z2 z3
    have w2 := terms_worth fo (atD kv)
    generalize (termsM f).foldl (tmStep (atD kv)) (0, 1) = st at *
    have u2 : st.2.natAbs < 2 ^ 7000 := by
      have e1 : ((2 ^ 7000 : Nat) : Int) = 2 ^ 7000 := Int.natCast_pow 2 7000
      rw [← e1] at z3
      omega
    refine r_I (show st.2 ≠ 0 by omega) ?_
    repeat walk_at "w"
    refine if_d (fun k => ?_) fun k => ?_
    · rw [if_pos k] at w2
      repeat walk_at "w"
      refine r_I (wide_div (b := 7000) z2 u2 (by decide) (by decide)) ?_
      rw [← w2]
      refine .inl ⟨rfl, ?_⟩
      rw [decide_eq_true rfl]
      exact q _ (S5.trans s6)
    · rw [if_neg k] at w2
      repeat walk_at "w"
      rw [← w2]
      refine .inl ⟨rfl, ?_⟩
      rw [decide_eq_true rfl]
      exact q _ (S5.trans s6)

theorem ok_law_terms_right (T : Txt K mg) : FnOk T.z.1 T.z.2 K mg base CX0 4 T.a_law_terms_right T.fd_law_terms_right ["_law_terms", "_law_values_here", "_law_form_here"] (sp_law_terms_right T) :=
  T.F_law_terms_right.ok sc_law_terms_right (len_law_terms_right T) fun cdv A outer s H vs Q E hr h => ⟨t_law_terms_right T.z.2 T, (pss_cons (ps_par3 (i := 3) (j := 4) (l := 5) rfl sc_law_terms_right.nd rfl rfl rfl (by decide) (by decide) (by decide) rfl rfl rfl (pa_cons pe_int (pa_cons pe_int (pa_cons (pe_lst pa_nil) pa_nil))) (by rfl))
      (pss_cons (ps_for PassesOwn.never rfl (pi_list (pv 0)) (pg_tup rfl (pgs_cons (pg_name (i := 6) sc_law_terms_right.nd rfl (Or.inl rfl)) (pgs_cons (pg_name (i := 7) sc_law_terms_right.nd rfl (Or.inl rfl)) (pgs_cons (pg_name (i := 8) sc_law_terms_right.nd rfl (Or.inl rfl)) pgs_nil)))) (pss_cons (ps_if (PW.pt (pw_or (pt_cmpR op_eq (pv 6) pe_int (nomark _)) (pw_or (pt_cmpR op_lt (pv 7) pe_int (nomark _)) (pw_or (pt_cmpR op_ne (pe_call (ok_law_common T) (hr.mono (by decide)) (by rfl) T.m__law_common T.F_law_common.kp (b_law_common T) .nil pass0 (pa_cons (pv 6) (pa_cons (pv 7) pa_nil))) pe_int (nomark _)) (pw_or (pt_cmpR (op_neX hr.units) (pv 8) (pe_callB cr_sortedS (by rfl) T.n_sorted (by decide +kernel) (pa_cons (pv 8) pa_nil)) (nomark _)) (pw_or1 (pt_cmpR (op_inD hr.units) (pv 8) (pv 5) (by rfl)))))))) (pss_one (ps_ret pe_bl)) pss_nil)
      (pss_cons (ps_expr (pe_bm PySem.F.plainAttrs_list PySem.F.slot_list_append PySem.F.type_list_append mt_append (pv 5) (pa_cons (pv 8) pa_nil)))
      (pss_cons (ps_for PassesOwn.never rfl (pi_list (pv 8)) (pg_name (i := 9) sc_law_terms_right.nd rfl (Or.inl rfl)) (pss_one (ps_set (i := 6) sc_law_terms_right.nd rfl (Or.inl rfl) (pe_op op_mulW (pv 6) (pe_dget (hu_of hr) (pv 1) (pv 9) (fun _ _ => rfl))))))
      (pss_one (ps_par (i := 3) (j := 4) rfl sc_law_terms_right.nd rfl rfl (by decide) rfl rfl (pa_cons (pe_op op_add (pe_op op_mulW (pv 3) (pv 7)) (pe_op op_mulW (pv 6) (pv 4))) (pa_cons (pe_op op_mulW (pv 4) (pv 7)) pa_nil)) (by rfl)))))))
      (pss_cons (ps_if (pt_cmpR (op_neX hr.units) (pe_lc (own := [("_law_names_here", 8)]) (g := (gName 8)) (tt := tYes) (te := tTup (tCons (tCB (rLenA K) (tCons (tVar 8) (tNil))) (tCons (tVar 8) (tNil)))) rfl sc_law_terms_right.nd (pi_list (pv 5)) (blkOk_by (own := [("_law_names_here", 8)]) (N := ["_law_terms", "_law_values_here", "_law_form_here", "_law_above", "_law_under", "_law_seen", "_law_many", "_law_bottom", "_law_names_here", "_law_name"]) (sc := defScope s_law_terms_right) (by decide +kernel)) (fun _ _ _ _ _ => (pg_name (i := 8) sc_law_terms_right.nd rfl (Or.inl rfl))) (fun _ _ _ _ _ => pts_nil) (fun _ _ _ _ _ => (pe_tup (pa_cons (pe_callB call_lenA (by rfl) T.n_len (by decide +kernel) (pa_cons (pv 8) pa_nil)) (pa_cons (pv 8) pa_nil))))) (pe_callB (cr_sortedD hr.units) (by rfl) T.n_sorted (by decide +kernel) (pa_cons (pe_lc (own := [("_law_names_here", 8)]) (g := (gName 8)) (tt := tYes) (te := tTup (tCons (tCB (rLenA K) (tCons (tVar 8) (tNil))) (tCons (tVar 8) (tNil)))) rfl sc_law_terms_right.nd (pi_list (pv 5)) (blkOk_by (own := [("_law_names_here", 8)]) (N := ["_law_terms", "_law_values_here", "_law_form_here", "_law_above", "_law_under", "_law_seen", "_law_many", "_law_bottom", "_law_names_here", "_law_name"]) (sc := defScope s_law_terms_right) (by decide +kernel)) (fun _ _ _ _ _ => (pg_name (i := 8) sc_law_terms_right.nd rfl (Or.inl rfl))) (fun _ _ _ _ _ => pts_nil) (fun _ _ _ _ _ => (pe_tup (pa_cons (pe_callB call_lenA (by rfl) T.n_len (by decide +kernel) (pa_cons (pv 8) pa_nil)) (pa_cons (pv 8) pa_nil))))) pa_nil)) (nomark _)) (pss_one (ps_ret pe_bl)) pss_nil)
      (pss_one (ps_ret (pe_cmpR (op_eqX hr.units) (pe_meth (pv 2) T.c_Form T.M_Form_at (ok_Form_at T) (hr.mono (by decide)) (b_Form_at T) .nil pass0 (pa_cons (pv 1) pa_nil)) (pe_ifExp (pt_cmpR op_eq (pe_op op_modN (pv 3) (pv 4)) pe_int (nomark _)) (pe_op op_fdivW (pv 3) (pv 4)) pe_non) (nomark _))))))), rd_law_terms_right T vs H Q E h⟩
end
end CP

namespace CP
open PySem L2
section
variable {P : Program} {w : World} {K : PySem.W.Frag} {mg : Str → Option Value} {base : Heap}
def mixM (a : Int) : Int := (a % 2147483647 * (a % 2147483647) + 40503) % 2147483629 * 48271 % 2147483587
theorem mixM_lt (a : Int) : 0 ≤ mixM a ∧ mixM a < 2147483587 := by
  unfold mixM
  omega
def sp_law_mixed (_ : Txt K mg) : Sp := fun vs H Q _ => match vs with
  | [.int s, .int t, .int i] => 0 ≤ s ∧ s < 2 ^ 40 ∧ 0 ≤ t ∧ t < 2 ^ 60 ∧ 0 ≤ i ∧ i < 2 ^ 40 ∧ ∀ g, 0 ≤ g → g < 2147483587 → Q (.int g) H
  | _ => False
@[reducible] def t_law_mixed_0 (w : World) (T : Txt K mg) : TS := tRet (tOp oMod (tOp oMul (tVar 3) (tC (.int 48271))) (tC (.int 2147483587)))
@[reducible] def t_law_mixed_1 (w : World) (T : Txt K mg) : TS := tSeq (tAsg (tOp oMod (tOp oAdd (tOp oMul (tVar 3) (tVar 3)) (tC (.int 40503))) (tC (.int 2147483629))) (gName 3)) (t_law_mixed_0 w T)
@[reducible] def t_law_mixed_2 (w : World) (T : Txt K mg) : TS := tSeq (tAsg (tOp oMod (tOp oAdd (tOp oAdd (tVar 3) (tOp oMul (tC (.int 7919)) (tVar 2))) (tVar 1)) (tC (.int 2147483647))) (gName 3)) (t_law_mixed_1 w T)
def t_law_mixed (w : World) (T : Txt K mg) : TS := tSeq (tAsg (tOp oAdd (tOp oMul (tVar 0) (tC (.int 69069))) (tOp oMul (tOp oMul (tC (.int 104729)) (tVar 1)) (tVar 1))) (gName 3)) (t_law_mixed_2 w T)
theorem len_law_mixed (T : Txt K mg) : ∀ (vs : List V) (H : Hp) (Q : VK) (E : XK), sp_law_mixed T vs H Q E → vs.length = (["_law_seed", "_law_turn", "_law_at"] : List Str).length := by
  intro vs H Q E h
  unfold sp_law_mixed at h
  split at h
  all_goals first | rfl | exact h.elim
theorem rd_law_mixed (T : Txt K mg) (vs : List V) (H : Hp) (Q : VK) (E : XK) (h : sp_law_mixed T vs H Q E) : t_law_mixed w T { nx := fun _ H' => Q .non H', rt := Q } (start ["_law_seed", "_law_turn", "_law_at", "_law_mixed_here"] vs) H := by
  match vs, h with
  | [.int s, .int t, .int i], h =>
  obtain ⟨hs, hs2, ht, ht2, hi, hi2, q⟩ := h
  unfold t_law_mixed
  walk_at "st"
  repeat walk_at "s"
  exact q _ (mixM_lt _).1 (mixM_lt _).2

theorem ok_law_mixed (T : Txt K mg) : FnOk T.z.1 T.z.2 K mg base CX0 1 T.a_law_mixed T.fd_law_mixed ["_law_seed", "_law_turn", "_law_at"] (sp_law_mixed T) :=
  T.F_law_mixed.ok sc_law_mixed (len_law_mixed T) fun cdv A outer s H vs Q E hr h => ⟨t_law_mixed T.z.2 T, (pss_cons (ps_set (i := 3) sc_law_mixed.nd rfl (Or.inl rfl) (pe_op op_add (pe_op op_mulW (pv 0) pe_int) (pe_op op_mulW (pe_op op_mulW pe_int (pv 1)) (pv 1))))
      (pss_cons (ps_set (i := 3) sc_law_mixed.nd rfl (Or.inl rfl) (pe_op op_mod (pe_op op_add (pe_op op_add (pv 3) (pe_op op_mulW pe_int (pv 2))) (pv 1)) pe_int))
      (pss_cons (ps_set (i := 3) sc_law_mixed.nd rfl (Or.inl rfl) (pe_op op_mod (pe_op op_add (pe_op op_mulW (pv 3) (pv 3)) pe_int) pe_int))
      (pss_one (ps_ret (pe_op op_mod (pe_op op_mulW (pv 3) pe_int) pe_int)))))), rd_law_mixed T vs H Q E h⟩
end
end CP

namespace CP
open PySem L2
section
variable {P : Program} {w : World} {K : PySem.W.Frag} {mg : Str → Option Value} {base : Heap}
/-- a draw below m leaves a purse, at most 60 steps further -/
def sp_law_draw (_ : Txt K mg) : Sp := fun vs H Q _ => match vs with
  | [.ref p, .int m] => ∃ c, Pu H p c ∧ c < 2 ^ 58 ∧ 0 < m ∧ m < 2 ^ 200 ∧ ∀ d H', 0 ≤ d → d < m → SB p H H' → Pu H' p (c + 60) → Q (.int d) H'
  | _ => False
theorem purse_bits {m : Int} (h : 0 < m) (h2 : m < 2 ^ 200) : 0 ≤ ((Builtin.Int.intBits m : Nat) : Int) ∧ ((Builtin.Int.intBits m : Nat) : Int) ≤ 200 := by
  have := PyProof.Rows.intBits_le (show m.natAbs < 2 ^ 200 by omega)
  omega
@[reducible] def t_law_draw_0 (w : World) (T : Txt K mg) : TS := tSeq (tAsg (tOp oDiv (tOp (rIxL K) (tVar 0) (tC (.int 0))) (tVar 1)) (gSub (tVar 0) (tC (.int 0)) rSetL)) (tRet (tVar 2))
@[reducible] def t_law_draw_1 (w : World) (T : Txt K mg) : TS := tSeq (tAsg (tOp oMod (tOp (rIxL K) (tVar 0) (tC (.int 0))) (tVar 1)) (gName 2)) (t_law_draw_0 w T)
@[reducible] def t_law_draw_2 (w : World) (T : Txt K mg) : TS := tAsg (tOp oAdd (tOp oMul (tVar 3) (tC (.int 2147483587))) (tCall (sp_law_mixed T) [] E0 (tCons (tOp (rIxL K) (tVar 0) (tC (.int 1))) (tCons (tOp (rIxL K) (tVar 0) (tC (.int 2))) (tCons (tOp (rIxL K) (tVar 0) (tC (.int 3))) (tNil)))))) (gName 3)
@[reducible] def t_law_draw_3 (w : World) (T : Txt K mg) : TS := tSeq (tAsg (tOp oAdd (tOp (rIxL K) (tVar 0) (tC (.int 2))) (tC (.int 1))) (gSub (tVar 0) (tC (.int 2)) rSetL)) (t_law_draw_2 w T)
@[reducible] def t_law_draw_4 (w : World) (T : Txt K mg) : TS := tSeq (tFor (iRng1 (tCons (tOp oAdd (tC (.int 1)) (tOp oDiv (tBits (tVar 1)) (tC (.int 28)))) (tNil))) (gName 4) (t_law_draw_3 w T)) (tRet (tOp oMod (tVar 3) (tVar 1)))
def t_law_draw (w : World) (T : Txt K mg) : TS := tSeq (tIfS (tTest (tOp oGt (tOp (rIxL K) (tVar 0) (tC (.int 0))) (tC (.int 0)))) (t_law_draw_1 w T) (tNext)) (tSeq (tAsg (tC (.int 0)) (gName 3)) (t_law_draw_4 w T))
theorem len_law_draw (T : Txt K mg) : ∀ (vs : List V) (H : Hp) (Q : VK) (E : XK), sp_law_draw T vs H Q E → vs.length = (["_law_purse_here", "_law_many"] : List Str).length := by
  intro vs H Q E h
  unfold sp_law_draw at h
  split at h
  all_goals first | rfl | exact h.elim
theorem rd_law_draw (T : Txt K mg) (vs : List V) (H : Hp) (Q : VK) (E : XK) (h : sp_law_draw T vs H Q E) : t_law_draw w T { nx := fun _ H' => Q .non H', rt := Q } (start ["_law_purse_here", "_law_many", "_law_drawn", "_law_found", "_law_piece"] vs) H := by
  match vs, h with
  | [.ref p, .int m], h =>
  obtain ⟨c, ⟨x, y, z, at', hp, x0, x1, y0, y1, z0, zc, t0, t1⟩, hz, hm, hm2, q⟩ := h
  unfold t_law_draw
  walk_at "st"
  repeat walk_at "s"
  refine r_ixL (.of hp) (v := .int x) (by rfl) ?_
  repeat walk_at "s"
  refine if_d (fun k => ?_) fun k => ?_
  · repeat walk_at "s"
    refine r_ixL (.of hp) (v := .int x) (by rfl) ?_
    repeat walk_at "s"
    refine r_ixL (.of hp) (v := .int x) (by rfl) ?_
    repeat walk_at "s"
    refine r_setL (j := 0) hp (by rfl) fun H1 s1 p1 => ?_
    repeat walk_at "s"
    have d0 : 0 ≤ x / m := Int.ediv_nonneg x0 (by omega)
    have d1 : x / m ≤ x := Int.ediv_le_self _ x0
    exact q _ H1 (Int.emod_nonneg _ (by omega)) (Int.emod_lt_of_pos _ hm) s1 ⟨_, _, z, at', p1, d0, by omega, y0, y1, z0, by omega, t0, t1⟩
  · repeat walk_at "s"
    have hb := purse_bits hm hm2
    generalize hg : ((Builtin.Int.intBits m : Nat) : Int) = b at hb ⊢
    refine r_rng (by omega) (by omega) ?_
    generalize hn : (1 + b / 28).toNat = n
    have hn2 : n ≤ 8 := by omega
    refine for_range (fun i σ H' => SB p H H' ∧ H' p = some (.lst [.int x, .int y, .int (z + (i : Int)), .int at']) ∧ ∃ (f : Int) (o : Option V), 0 ≤ f ∧ f < ((2 ^ (32 * i) : Nat) : Int) ∧ σ = [some (.ref p), some (.int m), none, some (.int f), o]) ⟨fun _ _ _ w => w, by rw [show ((0 : Nat) : Int) = 0 from rfl, Int.add_zero]; exact hp, 0, _, by decide, by decide, rfl⟩ ?_ ?_
    · rintro i σ H2 hi ⟨s2, p2, f, o, f0, f1, rfl⟩
      have hw : 2 ^ (32 * i) ≤ 2 ^ 256 := Nat.pow_le_pow_right (by decide) (by omega)
      have hw2 : 2 ^ (32 * (i + 1)) = 2 ^ (32 * i) * 2 ^ 32 := by rw [← Nat.pow_add]; rfl
      rw [hw2]
      generalize 2 ^ (32 * i) = w at hw f1 ⊢
      repeat walk_at "s"
      refine r_ixL (.of p2) (v := .int (z + i)) (by rfl) ?_
      repeat walk_at "s"
      refine r_setL (j := 2) p2 (by rfl) fun H3 s3 p3 => ?_
      have p4 : H3 p = some (.lst [.int x, .int y, .int (z + i + 1), .int at']) := p3
      repeat walk_at "s"
      refine r_ixL (.of p4) (v := .int y) (by rfl) ?_
      repeat walk_at "s"
      refine r_ixL (.of p4) (v := .int (z + i + 1)) (by rfl) ?_
      repeat walk_at "s"
      refine r_ixL (.of p4) (v := .int at') (by rfl) ?_
      repeat walk_at "s"
      refine ⟨y0, by omega, by omega, by omega, t0, t1, fun g ml0 ml1 => ?_⟩
      repeat walk_at "s"
      refine ⟨fun b o hb hb' => s3 b o hb (s2 b o hb hb'), ?_, _, _, ?_, ?_, rfl⟩
      · rw [show z + ((i + 1 : Nat) : Int) = z + i + 1 by omega]
        exact p4
      · omega
      · omega
    · rintro σ H2 ⟨s2, p2, f, o, f0, f1, rfl⟩
      repeat walk_at "s"
      exact q _ H2 (Int.emod_nonneg _ (by omega)) (Int.emod_lt_of_pos _ hm) s2 ⟨x, y, z + n, at', p2, x0, x1, y0, y1, by omega, by omega, t0, t1⟩

theorem ok_law_draw (T : Txt K mg) : FnOk T.z.1 T.z.2 K mg base CX0 2 T.a_law_draw T.fd_law_draw ["_law_purse_here", "_law_many"] (sp_law_draw T) :=
  T.F_law_draw.ok sc_law_draw (len_law_draw T) fun cdv A outer s H vs Q E hr h => ⟨t_law_draw T.z.2 T, (pss_cons (ps_if (pt_cmpR op_gt (pe_ix ix_list (pv 0) pe_int (fun _ _ => rfl)) pe_int (nomark _)) (pss_cons (ps_set (i := 2) sc_law_draw.nd rfl (Or.inl rfl) (pe_op op_mod (pe_ix ix_list (pv 0) pe_int (fun _ _ => rfl)) (pv 1)))
      (pss_cons (ps_asg (pe_op op_fdivW (pe_ix ix_list (pv 0) pe_int (fun _ _ => rfl)) (pv 1)) (pg_sub (pv 0) pe_int set_list))
      (pss_one (ps_ret (pv 2))))) pss_nil)
      (pss_cons (ps_set (i := 3) sc_law_draw.nd rfl (Or.inl rfl) pe_int)
      (pss_cons (ps_for PassesOwn.never rfl (pi_range1 (by rfl) T.n_range (pa_cons (pe_op op_add pe_int (pe_op op_fdivW (pe_bits (pv 1)) pe_int)) pa_nil)) (pg_name (i := 4) sc_law_draw.nd rfl (Or.inl rfl)) (pss_cons (ps_asg (pe_op op_add (pe_ix ix_list (pv 0) pe_int (fun _ _ => rfl)) pe_int) (pg_sub (pv 0) pe_int set_list))
      (pss_one (ps_set (i := 3) sc_law_draw.nd rfl (Or.inl rfl) (pe_op op_add (pe_op op_mulW (pv 3) pe_int) (pe_call (ok_law_mixed T) (hr.mono (by decide)) (by rfl) T.m__law_mixed T.F_law_mixed.kp (b_law_mixed T) .nil pass0 (pa_cons (pe_ix ix_list (pv 0) pe_int (fun _ _ => rfl)) (pa_cons (pe_ix ix_list (pv 0) pe_int (fun _ _ => rfl)) (pa_cons (pe_ix ix_list (pv 0) pe_int (fun _ _ => rfl)) pa_nil)))))))))
      (pss_one (ps_ret (pe_op op_mod (pv 3) (pv 1))))))), rd_law_draw T vs H Q E h⟩
end
end CP

namespace CP
open PySem L2
section
variable {P : Program} {w : World} {K : PySem.W.Frag} {mg : Str → Option Value} {base : Heap}
def sp_law_one_of (_ : Txt K mg) : Sp := fun vs H Q _ => match vs with
  | [.ref p, .ref a] => ∃ c xs, Pu H p c ∧ c < 2 ^ 58 ∧ H a = some (.lst xs) ∧ a ≠ p ∧ 0 < xs.length ∧ xs.length ≤ 1000 ∧ ∀ v H', v ∈ xs → SB p H H' → Pu H' p (c + 60) → Q v H'
  | _ => False
def t_law_one_of (w : World) (T : Txt K mg) : TS := tRet (tOp (rIxL K) (tVar 1) (tCall (sp_law_draw T) [] E0 (tCons (tVar 0) (tCons (tCB (rLenA K) (tCons (tVar 1) (tNil))) (tNil)))))
theorem len_law_one_of (T : Txt K mg) : ∀ (vs : List V) (H : Hp) (Q : VK) (E : XK), sp_law_one_of T vs H Q E → vs.length = (["_law_purse_here", "_law_some"] : List Str).length := by
  intro vs H Q E h
  unfold sp_law_one_of at h
  split at h
  all_goals first | rfl | exact h.elim
theorem rd_law_one_of (T : Txt K mg) (vs : List V) (H : Hp) (Q : VK) (E : XK) (h : sp_law_one_of T vs H Q E) : t_law_one_of w T { nx := fun _ H' => Q .non H', rt := Q } (start ["_law_purse_here", "_law_some"] vs) H := by
  match vs, h with
  | [.ref p, .ref a], h =>
  obtain ⟨c, xs, hp, hz, ha, ne, l0, l1, q⟩ := h
  have sz : sizeLine = 16777216 := rfl
  unfold t_law_one_of
  walk_at "st"
  repeat walk_at "w"
  refine ⟨c, hp, hz, by omega, by omega, fun d H1 d0 d1 b1 hp1 => ?_⟩
  obtain ⟨i, rfl⟩ := Int.eq_ofNat_of_zero_le d0
  have hi : i < xs.length := by omega
  refine r_ixL (.of (b1 _ _ ne ha)) (atI_nat (List.getElem?_eq_getElem hi)) ?_
  exact q _ H1 (List.getElem_mem hi) b1 hp1

theorem ok_law_one_of (T : Txt K mg) : FnOk T.z.1 T.z.2 K mg base CX0 3 T.a_law_one_of T.fd_law_one_of ["_law_purse_here", "_law_some"] (sp_law_one_of T) :=
  T.F_law_one_of.ok sc_law_one_of (len_law_one_of T) fun cdv A outer s H vs Q E hr h => ⟨t_law_one_of T.z.2 T, (pss_one (ps_ret (pe_ix ix_list (pv 1) (pe_call (ok_law_draw T) (hr.mono (by decide)) (by rfl) T.m__law_draw T.F_law_draw.kp (b_law_draw T) .nil pass0 (pa_cons (pv 0) (pa_cons (pe_callB call_lenA (by rfl) T.n_len (by decide +kernel) (pa_cons (pv 1) pa_nil)) pa_nil))) (fun _ _ => rfl)))), rd_law_one_of T vs H Q E h⟩
end
end CP

namespace CP
open PySem L2
section
variable {P : Program} {w : World} {K : PySem.W.Frag} {mg : Str → Option Value} {base : Heap}
/-- drawn letters -/
def LetD (w : Str) : Prop := letB w = true ∧ w ≠ "other" ∧ w ≠ "absent"
def fixW : List Str := ["n", "m", "k", "i", "j", "size", "abcdefghij", "z", "row", "width", "column"]
theorem other5 : ("other" : Str).cps.toList.length = 5 := by decide +kernel
theorem absent6 : ("absent" : Str).cps.toList.length = 6 := by decide +kernel
theorem fixW_let : ∀ w ∈ fixW, letB w = true ∧ w ≠ "other" ∧ w ≠ "absent" := by decide +kernel
theorem fixW_nd : fixW.Nodup := by decide +kernel
def sp_law_names (_ : Txt K mg) : Sp := fun vs H Q _ => match vs with
  | [.ref p, .int m] => ∃ c, Pu H p c ∧ c < 2 ^ 57 ∧ 0 ≤ m ∧ m ≤ 8 ∧ ∀ q l H', l.Nodup → (∀ w ∈ l, LetD w) → (l.length : Int) = m → H q = none → SB p H H' → H' q = some (.lst (strL l)) → Pu H' p (c + 5000) → Q (.ref q) H'
  | _ => False
@[reducible] def t_law_names_0 (w : World) (T : Txt K mg) : TS := tAsg (tOp rAddSt (tVar 4) (tOp rIxS (tC (.str "abcdefghijklmnopqrstuvwxyz")) (tCall (sp_law_draw T) [] E0 (tCons (tVar 0) (tCons (tC (.int 26)) (tNil)))))) (gName 4)
@[reducible] def t_law_names_1 (w : World) (T : Txt K mg) : TS := tDrop (tBM K "list" rAppend (tVar 2) (tCons (tCall (sp_law_one_of T) [] E0 (tCons (tVar 0) (tCons (tLc (iList K (tVar 6)) (gName 7) (tTest (tOp (rIn K true) (tVar 7) (tVar 2))) (tVar 7) [7]) (tNil)))) (tNil)))
@[reducible] def t_law_names_2 (w : World) (T : Txt K mg) : TS := tSeq (tAsg (tLst (tCons (tC (.str "n")) (tCons (tC (.str "m")) (tCons (tC (.str "k")) (tCons (tC (.str "i")) (tCons (tC (.str "j")) (tCons (tC (.str "size")) (tCons (tC (.str "abcdefghij")) (tCons (tC (.str "z")) (tCons (tC (.str "row")) (tCons (tC (.str "width")) (tCons (tC (.str "column")) (tCons (tVar 4) (tCons (tVar 4) (tCons (tVar 4) (tNil)))))))))))))))) (gName 6)) (t_law_names_1 w T)
@[reducible] def t_law_names_3 (w : World) (T : Txt K mg) : TS := tSeq (tFor (iRng1 (tCons (tOp oAdd (tC (.int 1)) (tCall (sp_law_draw T) [] E0 (tCons (tVar 0) (tCons (tC (.int 3)) (tNil))))) (tNil))) (gName 5) (t_law_names_0 w T)) (t_law_names_2 w T)
@[reducible] def t_law_names_4 (w : World) (T : Txt K mg) : TS := tSeq (tFor (iRng1 (tCons (tVar 1) (tNil))) (gName 3) (tSeq (tAsg (tC (.str "")) (gName 4)) (t_law_names_3 w T))) (tRet (tVar 2))
def t_law_names (w : World) (T : Txt K mg) : TS := tSeq (tAsg (tLst (tNil)) (gName 2)) (t_law_names_4 w T)
theorem len_law_names (T : Txt K mg) : ∀ (vs : List V) (H : Hp) (Q : VK) (E : XK), sp_law_names T vs H Q E → vs.length = (["_law_purse_here", "_law_many"] : List Str).length := by
  intro vs H Q E h
  unfold sp_law_names at h
  split at h
  all_goals first | rfl | exact h.elim
theorem rd_law_names (T : Txt K mg) (vs : List V) (H : Hp) (Q : VK) (E : XK) (h : sp_law_names T vs H Q E) : t_law_names w T { nx := fun _ H' => Q .non H', rt := Q } (start ["_law_purse_here", "_law_many", "_law_found", "_law_turn", "_law_word", "_law_spot", "_law_some", "_law_name"] vs) H := by
  match vs, h with
  | [.ref p, .int m], h =>
  obtain ⟨c, hp, hz, m0, m1, q⟩ := h
  have sz : sizeLine = 16777216 := rfl
  unfold t_law_names
  walk_at "st"
  repeat walk_at "w"
  rename_i f H0 f0 s0 hf
  have fp : f ≠ p := hp.ne f0
  refine for_range (fun i σ H' => SB p H H' ∧ (∃ l, H' f = some (.lst (strL l)) ∧ l.length = i ∧ l.Nodup ∧ ∀ w ∈ l, LetD w) ∧ Pu H' p (c + 400 * i) ∧ ∃ x3 x4 x5 x6 x7, σ = [some (.ref p), some (.int m), some (.ref f), x3, x4, x5, x6, x7]) ⟨Same.sb' s0, ⟨[], hf, rfl, .nil, by simp⟩, (hp.mono s0).up (by omega), _, _, _, _, _, rfl⟩ ?_ ?_
  · rintro i σ H1 hi ⟨b1, ⟨l, hl, ll, nd, hw⟩, hp1, x3, x4, x5, x6, x7, rfl⟩
    have i8 : i < 8 := by omega
    repeat walk_at "w"
    refine ⟨_, hp1, by omega, by decide, by decide, fun d H2 d0 d1 b2 hp2 => ?_⟩
    have hl2 := b2 _ _ fp hl
    repeat walk_at "w"
    refine for_range (fun j σ H' => SB p H2 H' ∧ Pu H' p (c + 400 * i + 60 + 60 * j) ∧ ∃ z x5, Wd j j z ∧ σ = [some (.ref p), some (.int m), some (.ref f), some (.int (0 + (i : Int))), some (.str z), x5, x6, x7]) ⟨fun _ _ _ z => z, hp2.up (by omega), "", _, ⟨by decide, by decide, by decide⟩, rfl⟩ ?_ ?_
    · rintro j σ H3 hj ⟨b3, hp3, z, x5, hz3, rfl⟩
      have zl : z.length = z.cps.toList.length := by show z.cps.size = _; simp
      have z2 := hz3.2.1
      repeat walk_at "w"
      refine ⟨_, hp3, by omega, by decide, by decide, fun e H4 e0 e1 b4 hp4 => ?_⟩
      obtain ⟨ch, a1, a2⟩ := small_at e0 e1
      refine r_ixSS (by decide) a1 ?_
      refine r_addSt (by show z.length + 1 ≤ _; omega) ?_
      repeat walk_at "w"
      exact ⟨SB.trans' b3 b4, hp4.up (by omega), _, _, hz3.add a2, rfl⟩
    · rintro σ H3 ⟨b3, hp3, z, x5, hz3, rfl⟩
      have jn : (1 + d).toNat ≤ 3 ∧ 1 ≤ (1 + d).toNat := by omega
      generalize (1 + d).toNat = j at *
      have hl3 := b3 _ _ fp hl2
      repeat walk_at "w"
      rename_i sm H4 sm0 s4 hsm
      have hsm : H4 sm = some (.lst (strL (fixW ++ [z, z, z]))) := hsm
      have hl4 := CP.Same.to s4 hl3
      refine ⟨.inl ⟨rfl, _, .of hl4⟩, ?_⟩
      repeat walk_at "w"
      refine ⟨sm, rfl, ⟨_, .of hsm⟩, fun D hD => lc_strF (fun y => !decide (y ∈ l)) hD (.of hsm) (by rw [List.length_append]; show 11 + 3 < sizeLine; decide) (fun k y H5 hy s5 N no yes => ?_) fun H5 s5 hacc => ?_⟩
      · repeat walk_at "w"
        refine ⟨rfl, ?_⟩
        repeat walk_at "w"
        refine r_niStr (.of (CP.Same.to s5 hl4)) ?_
        repeat walk_at "w"
        dsimp only at no yes
        cases e : decide (y ∈ l) with
        | true => rw [e] at no; exact if_nf (no _ rfl (Same.refl _))
        | false =>
          rw [e] at yes
          refine if_nt ?_
          repeat walk_at "w"
          exact yes _ _ _ rfl (Same.refl _) rfl
      have S5 := s4.trans s5
      have hp5 := hp3.mono S5
      have Dp : D ≠ p := (hp3.mono s4).ne hD
      have zd : LetD z := ⟨hz3.let jn.2 (by omega), (hz3.ne (by rw [other5]; omega)), (hz3.ne (by rw [absent6]; omega))⟩
      have all : ∀ w ∈ fixW ++ [z, z, z], LetD w := fun w hw => by
        rcases List.mem_append.mp hw with k | k
        · exact fixW_let w k
        · have : w = z := by simpa using k
          rw [this]; exact zd
      have fl := List.length_filter_le (fun y => !decide (y ∈ l)) (fixW ++ [z, z, z])
      rw [List.length_append, show fixW.length = 11 from rfl, show [z, z, z].length = 3 from rfl] at fl
      have fp0 : 0 < ((fixW ++ [z, z, z]).filter fun y => !decide (y ∈ l)).length := by
        refine Nat.pos_of_ne_zero fun e => ?_
        have e := List.eq_nil_of_length_eq_zero e
        have sub : ∀ w ∈ fixW, w ∈ l := fun w hw => by
          refine Classical.byContradiction fun n => ?_
          have : w ∈ ((fixW ++ [z, z, z]).filter fun y => !decide (y ∈ l)) := List.mem_filter.mpr ⟨List.mem_append_left _ hw, by rw [decide_eq_false n]; rfl⟩
          rw [e] at this
          cases this
        have := fixW_nd.length_le_of_subset sub
        have : fixW.length = 11 := rfl
        omega
      repeat walk_at "w"
      refine ⟨_, _, hp5, by omega, hacc, Dp, by rw [strL_len]; omega, by rw [strL_len]; omega, fun v H6 hv b6 hp6 => ?_⟩
      obtain ⟨y, hy, rfl⟩ := List.mem_map.mp hv
      obtain ⟨hy1, hy2⟩ := List.mem_filter.mp hy
      have hy2 : y ∉ l := by simpa using hy2
      have hl6 := b6 _ _ fp (CP.Same.to s5 hl4)
      repeat walk_at "w"
      refine r_app hl6 (by rw [strL_len]; omega) fun H7 b7 hf7 => ?_
      have B7 : SB p H H6 := SB.trans' b1 (SB.trans' b2 (SB.trans' b3 (SB.trans' (Same.sb' S5) b6)))
      refine ⟨SB.fresh B7 f0 b7, ⟨l ++ [y], by rw [strL_app]; exact hf7, by rw [List.length_append]; simp [ll], ?_, fun w hw' => ?_⟩, (hp6.sb b7 fp.symm).up (by omega), _, _, _, _, _, rfl⟩
      · rw [List.nodup_append]
        exact ⟨nd, by simp, fun a ha b hb => by rw [List.mem_singleton.mp hb]; exact fun e => hy2 (e ▸ ha)⟩
      · rcases List.mem_append.mp hw' with k | k
        · exact hw w k
        · rw [List.mem_singleton.mp k]; exact all y hy1
  · rintro σ H1 ⟨b1, ⟨l, hl, ll, nd, hw⟩, hp1, x3, x4, x5, x6, x7, rfl⟩
    repeat walk_at "w"
    exact q f l H1 nd hw (by omega) f0 b1 hl (hp1.up (by omega))

theorem ok_law_names (T : Txt K mg) : FnOk T.z.1 T.z.2 K mg base CX0 4 T.a_law_names T.fd_law_names ["_law_purse_here", "_law_many"] (sp_law_names T) :=
  T.F_law_names.ok sc_law_names (len_law_names T) fun cdv A outer s H vs Q E hr h => ⟨t_law_names T.z.2 T, (pss_cons (ps_set (i := 2) sc_law_names.nd rfl (Or.inr rfl) (pe_lst pa_nil))
      (pss_cons (ps_for PassesOwn.never rfl (pi_range1 (by rfl) T.n_range (pa_cons (pv 1) pa_nil)) (pg_name (i := 3) sc_law_names.nd rfl (Or.inl rfl)) (pss_cons (ps_set (i := 4) sc_law_names.nd rfl (Or.inl rfl) pe_str)
      (pss_cons (ps_for PassesOwn.never rfl (pi_range1 (by rfl) T.n_range (pa_cons (pe_op op_add pe_int (pe_call (ok_law_draw T) (hr.mono (by decide)) (by rfl) T.m__law_draw T.F_law_draw.kp (b_law_draw T) .nil pass0 (pa_cons (pv 0) (pa_cons pe_int pa_nil)))) pa_nil)) (pg_name (i := 5) sc_law_names.nd rfl (Or.inl rfl)) (pss_one (ps_set (i := 4) sc_law_names.nd rfl (Or.inl rfl) (pe_op op_addS (pv 4) (pe_ix ix_str pe_str (pe_call (ok_law_draw T) (hr.mono (by decide)) (by rfl) T.m__law_draw T.F_law_draw.kp (b_law_draw T) .nil pass0 (pa_cons (pv 0) (pa_cons pe_int pa_nil))) (fun _ _ => rfl))))))
      (pss_cons (ps_set (i := 6) sc_law_names.nd rfl (Or.inl rfl) (pe_lst (pa_cons pe_str (pa_cons pe_str (pa_cons pe_str (pa_cons pe_str (pa_cons pe_str (pa_cons pe_str (pa_cons pe_str (pa_cons pe_str (pa_cons pe_str (pa_cons pe_str (pa_cons pe_str (pa_cons (pv 4) (pa_cons (pv 4) (pa_cons (pv 4) pa_nil))))))))))))))))
      (pss_one (ps_expr (pe_bm PySem.F.plainAttrs_list PySem.F.slot_list_append PySem.F.type_list_append mt_append (pv 2) (pa_cons (pe_call (ok_law_one_of T) (hr.mono (by decide)) (by rfl) T.m__law_one_of T.F_law_one_of.kp (b_law_one_of T) .nil pass0 (pa_cons (pv 0) (pa_cons (pe_lc (own := [("_law_name", 7)]) (g := (gName 7)) (tt := tTest (tOp (rIn K true) (tVar 7) (tVar 2))) (te := tVar 7) rfl sc_law_names.nd (pi_list (pv 6)) (blkOk_by (own := [("_law_name", 7)]) (N := ["_law_purse_here", "_law_many", "_law_found", "_law_turn", "_law_word", "_law_spot", "_law_some", "_law_name"]) (sc := defScope s_law_names) (by decide +kernel)) (fun _ _ _ _ _ => (pg_name (i := 7) sc_law_names.nd rfl (Or.inl rfl))) (fun _ _ _ _ _ => (pts_one (pt_cmpR op_notIn_seq (pv 7) (pv 2) (by rfl)))) (fun _ _ _ _ _ => (pv 7))) pa_nil))) pa_nil))))))))
      (pss_one (ps_ret (pv 2))))), rd_law_names T vs H Q E h⟩
end
end CP

namespace CP
open PySem L2
section
/-! what stays where a purse is drawn from and lambdas are made; lists of terms, shown -/
def SBN (p : Addr) (H H' : Hp) : Prop := ∀ b o, b ≠ p → H b = some o → (∀ xs, o ≠ .tbl xs) → H' b = some o
section
variable {p b o : Addr} {H H' H2 : Hp} {c : Int} {xs : List V} {z : Pw} {C : Addr} {f : Fm}
theorem SBN.sb (s : SB p H H') : SBN p H H' := fun b o n e _ => s b o n e
theorem SBN.ext (e : LamX.ExtN H H') : SBN p H H' := fun b o _ h n => e b o h n
theorem SBN.same (s : Same H H') : SBN p H H' := fun b o _ h _ => s b o h
theorem SBN.refl : SBN p H H := fun b o _ h _ => h
theorem SBN.trans (s : SBN p H H') (t : SBN p H' H2) : SBN p H H2 := fun b o n e k => t b o n (s b o n e k) k
theorem SBN.lst (s : SBN p H H') (n : b ≠ p) (h : H b = some (.lst xs)) : H' b = some (.lst xs) := s b _ n h fun _ z => by cases z
theorem SBN.form (s : SBN p H H') (hp : Pu H p c) (h : FormZ z C H o f) : FormZ z C H' o f := by
  obtain ⟨x, y, w, i, e, _⟩ := hp
  exact h.keep (fun b o u k => s b _ (fun q => by rw [q, e] at k; cases k) k fun _ q => by cases q) fun dx fs k => s _ _ (fun q => by rw [q, e] at k; cases k) k fun _ q => by cases q
theorem SBN.stay (s : SBN p H H') (hp : Pu H p c) : TupStay H H' := fun t xs h => by
  obtain ⟨x, y, w, i, e, _⟩ := hp
  exact s t _ (fun q => by rw [q, e] at h; cases h) h fun _ q => by cases q
theorem SBN.free (s : SBN p H H') (bp : b ≠ p) (n : H' b = none) : NewN H b := fun o h => Classical.byContradiction fun no => by
  have := s b o bp h fun xs z => no ⟨xs, z⟩
  rw [n] at this
  cases this
theorem Pu.ext (h : Pu H p c) (e : LamX.ExtN H H') : Pu H' p c := by
  obtain ⟨x, y, w, i, k, r⟩ := h
  exact ⟨x, y, w, i, e _ _ k (fun _ q => by cases q), r⟩
theorem tabs_lst {T : List (Addr × Str)} (t : LamX.Tabs T H) (h : H b = some (.lst xs)) (s : SB b H H') : LamX.Tabs T H' :=
  (tabs_hid t h).ext fun a o ha => by
    have bp : a ≠ b := fun k => by rw [k] at ha; unfold hide at ha; rw [if_pos rfl] at ha; cases ha
    rw [hide_ne bp] at ha
    exact s _ _ bp ha
theorem tabs_pu {T : List (Addr × Str)} (t : LamX.Tabs T H) (h : Pu H p c) (s : SB p H H') : LamX.Tabs T H' := by
  obtain ⟨x, y, w, i, e, _⟩ := h
  exact tabs_lst t e s
theorem NewN.ne {o : HO} {o' : Addr} (n : NewN H b) (h : H o' = some o) (k : ∀ xs, o ≠ .tbl xs) : b ≠ o' := fun e => by
  subst e
  obtain ⟨xs, z⟩ := n _ h
  exact k xs z
end
/-- inner lists of terms -/
theorem TermsN.inner {H0 H1 : Hp} : ∀ {vs : List V} {ts : List (Int × Int × List Str)}, Paired (TermN H0 H1) vs ts → ∃ bs : List Addr, Paired (fun v b => ∃ (a : Addr) (x y : Int), v = .ref a ∧ H1 a = some (.tup [.int x, .int y, .ref b])) vs bs ∧ Paired (fun b (t : Int × Int × List Str) => H1 b = some (.lst (strL t.2.2)) ∧ NewN H0 b) bs ts
  | _, _, .nil => ⟨[], .nil, .nil⟩
  | _, _, .cons ⟨a, b, e, h1, h2, h3⟩ r => by
    obtain ⟨bs, p, q⟩ := TermsN.inner r
    exact ⟨b :: bs, .cons ⟨a, _, _, e, h1⟩ p, .cons ⟨h2, h3⟩ q⟩
theorem TermsN.sb {H0 H1 H2 : Hp} {p g : Addr} {c : Int} {ts : List (Int × Int × List Str)} (h : TermsN H0 H1 g ts) (gp : g ≠ p) (hp0 : Pu H0 p c) (hp : Pu H1 p c) (s : SB p H1 H2) : TermsN H0 H2 g ts := by
  obtain ⟨vs, hv, pt⟩ := h
  obtain ⟨x, y, w, i, e, _⟩ := hp
  obtain ⟨x', y', w', i', e', _⟩ := hp0
  exact ⟨vs, s _ _ gp hv, pd_mono pt fun _ _ ⟨a, b, e1, h1, h2, h3⟩ => ⟨a, b, e1, s _ _ (fun q => by rw [q, e] at h1; cases h1) h1, s _ _ (h3.ne e' fun _ q => by cases q) h2, h3⟩⟩
theorem TermsN.mono {H0 H1 H2 : Hp} {g : Addr} {ts : List (Int × Int × List Str)} (h : TermsN H0 H1 g ts) (s : Same H1 H2) : TermsN H0 H2 g ts := by
  obtain ⟨vs, hv, pt⟩ := h
  exact ⟨vs, s _ _ hv, pd_mono pt fun _ _ w => w.mono s⟩
/-! ### repr of a list of terms -/
structure TmB (t : Int × Int × List Str) : Prop where
  num : t.1.natAbs < 2 ^ 200
  den : t.2.1.natAbs < 2 ^ 200
  len : t.2.2.length ≤ 64
  lets : ∀ w ∈ t.2.2, letB w = true
theorem int_sh {i : Int} (h : i.natAbs < 2 ^ 200) : (PyData.int i).showable = true ∧ (PyData.shown (.int i)).length ≤ 62 := by
  have l : i.natAbs.log2 < 200 := by
    by_cases z : i.natAbs = 0
    · rw [z]; decide
    · exact (Nat.log2_lt z).mpr h
  refine ⟨by simp only [PyData.showable, decide_eq_true_eq]; omega, ?_⟩
  have e := int_text_length_le10 (k := 61) (a := i) (by decide) (Nat.lt_trans h (by decide))
  have e2 : (PyData.shown (.int i)).length = (toString i).length := PySem.ofString_length _
  omega
theorem strs_sh : ∀ {l : List Str}, (∀ w ∈ l, letB w = true) → PyData.showableAll (l.map PyData.str) = true ∧ PyData.hasDictAll (l.map PyData.str) = false ∧ PyData.leavesShortAll 8 (l.map PyData.str) = true ∧ PyData.weightAll (l.map PyData.str) ≤ 11 * l.length
  | [], _ => ⟨by simp [PyData.showableAll], by simp [PyData.hasDictAll], by simp [PyData.leavesShortAll], by simp [PyData.weightAll]⟩
  | w :: l, h => by
    obtain ⟨i1, i2, i3, i4⟩ := strs_sh (l := l) fun x hx => h x (List.mem_cons_of_mem _ hx)
    have hw := h w (List.mem_cons_self ..)
    have zl : w.cps.size ≤ 10 := (let_len hw).2
    have sh : PyData.leavesShort 8 (.str w) = true := by
      simp only [PyData.leavesShort]
      unfold letB at hw
      rw [Bool.and_eq_true] at hw
      rw [List.all_eq_true]
      intro c hc
      have := small_low c (of_decide_eq_true (List.all_eq_true.mp hw.2 c hc))
      exact decide_eq_true (Nat.lt_trans this (by decide))
    refine ⟨by simp [PyData.showableAll, PyData.showable, i1], by simp [PyData.hasDictAll, PyData.hasDict, i2], by simp only [List.map_cons, PyData.leavesShortAll, sh, i3, Bool.and_self], ?_⟩
    simp only [List.map_cons, PyData.weightAll, PyData.weight, List.length_cons]
    omega
theorem tm_sh {t : Int × Int × List Str} (h : TmB t) : (tmD t).showable = true ∧ (tmD t).hasDict = false ∧ (tmD t).shown.length ≤ 8000 := by
  obtain ⟨n1, n2⟩ := int_sh h.num
  obtain ⟨d1, d2⟩ := int_sh h.den
  obtain ⟨s1, s2, s3, s4⟩ := strs_sh h.lets
  have ln := h.len
  have sl := PyData.shown_le 8 (by decide) (.list (t.2.2.map PyData.str)) (by simp only [PyData.leavesShort]; exact s3)
  have wl : (PyData.list (t.2.2.map PyData.str)).weight ≤ 704 := by simp only [PyData.weight]; omega
  refine ⟨by simp only [tmD, PyData.showable, PyData.showableAll] at *; simp [n1, d1, s1], by simp only [tmD, PyData.hasDict, PyData.hasDictAll] at *; simp [s2], ?_⟩
  unfold tmD
  have tl := tupleText_len_le (PyData.shownAll [.int t.1, .int t.2.1, .list (t.2.2.map .str)])
  simp only [PyData.shownAll, List.map_cons, List.map_nil, List.sum_cons, List.sum_nil, List.length_cons, List.length_nil] at tl
  have e : (PyData.tuple [.int t.1, .int t.2.1, .list (t.2.2.map .str)]).shown = tupleText (PyData.shownAll [.int t.1, .int t.2.1, .list (t.2.2.map .str)]) := by simp only [PyData.shown]
  rw [e]
  simp only [PyData.shownAll]
  omega
theorem tms_shA : ∀ {ts : List (Int × Int × List Str)}, (∀ t ∈ ts, TmB t) → PyData.showableAll (ts.map tmD) = true ∧ PyData.hasDictAll (ts.map tmD) = false ∧ ((PyData.shownAll (ts.map tmD)).map (·.length)).sum ≤ 8000 * ts.length ∧ (PyData.shownAll (ts.map tmD)).length = ts.length
  | [], _ => ⟨by simp [PyData.showableAll], by simp [PyData.hasDictAll], by simp [PyData.shownAll], by simp [PyData.shownAll]⟩
  | t :: ts, h => by
    obtain ⟨i1, i2, i3, i4⟩ := tms_shA (ts := ts) fun x hx => h x (List.mem_cons_of_mem _ hx)
    obtain ⟨a, b, c⟩ := tm_sh (h t (List.mem_cons_self ..))
    refine ⟨by simp [PyData.showableAll, a, i1], by simp [PyData.hasDictAll, b, i2], ?_, ?_⟩
    · simp only [List.map_cons, PyData.shownAll, List.sum_cons, List.length_cons]
      omega
    · simp only [List.map_cons, PyData.shownAll, List.length_cons, i4]
theorem tms_repr {K : PySem.W.Frag} {H : Hp} {Q : VK} {g : Addr} {ts : List (Int × Int × List Str)} (h : TermsAt H g ts) (b : ∀ t ∈ ts, TmB t) (few : ts.length ≤ 1000) (q : Q (.str (tmsD ts).shown) H) : rRepr K [.ref g] H Q := by
  obtain ⟨a1, a2, a3, a4⟩ := tms_shA b
  have sz : sizeLine = 16777216 := rfl
  obtain ⟨l1, l2⟩ := tms_sh (ts := ts) fun t ht w hw => let_lay ((b t ht).lets w hw)
  refine ⟨g, tmsD ts, rfl, h.dp, by unfold tmsD; simp only [PyData.showable]; exact a1, by unfold tmsD; simp only [PyData.hasDict]; exact a2, by unfold tmsD; simp only [PyData.depth]; omega, ?_, q⟩
  have ll := listText_len_le (PyData.shownAll (ts.map tmD))
  have e : (tmsD ts).shown = listText (PyData.shownAll (ts.map tmD)) := by unfold tmsD; simp only [PyData.shown]
  rw [e]
  rw [a4] at ll
  omega
theorem tmB_of {f : Fm} (tm : TmOk f) : ∀ t ∈ termsM f, TmB t := fun t ht => by
  unfold termsM at ht
  obtain ⟨p, hp, rfl⟩ := List.mem_map.mp ht
  obtain ⟨r, hr, rfl⟩ := List.mem_map.mp ((ordP_perm _).mem_iff.mp hp)
  obtain ⟨_, t1, t2, t3, _⟩ := term_is tm.ok r.1
  rw [getT_mem tm.ok.nd hr] at t3
  have nm := tm.ok.num r hr
  have fp := tm.ok.pos
  refine ⟨Nat.lt_of_le_of_lt t3 nm, ?_, Nat.le_of_lt (tm.deg r hr), (tm.ok.lets r hr).1⟩
  have e1 : ((2 ^ 200 : Nat) : Int) = 2 ^ 200 := Int.natCast_pow 2 200
  have := fp.2
  rw [← e1] at this
  generalize (2 : Nat) ^ 200 = N at *
  omega
/-- a form over drawn letters, its terms good to be told -/
structure FrOk (l : List Str) (f : Fm) : Prop where
  tm : TmOk f
  nd : l.Nodup
  few : l.length ≤ 8
  drawn : ∀ w ∈ l, LetD w
  keys : ∀ r ∈ f.1, (∀ w ∈ r.1, w ∈ l) ∧ r.1.length ≤ 16
theorem FrOk.vals {l : List Str} {f : Fm} (h : FrOk l f) {kv : List (Str × Int)} (kk : kv.map (·.1) = l) (kb : ∀ u ∈ kv, u.2.natAbs < 2 ^ 67) : ValOk f kv := by
  have nd : (kv.map (·.1)).Nodup := by rw [kk]; exact h.nd
  have has : ∀ w ∈ l, (getD kv w).isSome = true ∧ (atD kv w).natAbs < 2 ^ 67 := fun w hw => by
    have hm : w ∈ kv.map (·.1) := by rw [kk]; exact hw
    obtain ⟨u, hu, rfl⟩ := List.mem_map.mp hm
    have g := getD_mem nd hu
    unfold atD
    rw [g]
    exact ⟨rfl, kb u hu⟩
  have kl : kv.length = l.length := by rw [← kk, List.length_map]
  have few := h.few
  refine ⟨fun u hu => (h.drawn u.1 (by rw [← kk]; exact List.mem_map_of_mem hu)).1, nd, by omega, fun r hr w hw => ?_, fun r hr j => ?_⟩
  · have := has w ((h.keys r hr).1 w hw)
    exact ⟨this.1, Nat.lt_trans this.2 (Nat.pow_lt_pow_right (by decide) (by decide))⟩
  · have k1 := h.keys r hr
    have k2 := prodF_abs (v := atD kv) (k := 67) (l := r.1.take j) fun w hw => Nat.le_of_lt (has w (k1.1 w (List.mem_of_mem_take hw))).2
    have k3 : (r.1.take j).length ≤ 16 := by rw [List.length_take]; have := k1.2; omega
    have k4 := h.tm.ok.num r hr
    have k6 : 2 ^ (67 * (r.1.take j).length) ≤ 2 ^ (67 * 16) := pow_up (Nat.mul_le_mul_left _ k3)
    rw [Int.natAbs_mul]
    have k8 : r.2.natAbs * (prodF (atD kv) (r.1.take j)).natAbs ≤ r.2.natAbs * 2 ^ (67 * 16) := Nat.mul_le_mul_left _ (Nat.le_trans k2 k6)
    have k9 : r.2.natAbs * 2 ^ (67 * 16) < 2 ^ 200 * 2 ^ (67 * 16) := Nat.mul_lt_mul_of_pos_right k4 (Nat.pow_pos (by decide))
    rw [← Nat.pow_add] at k9
    exact Nat.lt_of_le_of_lt k8 (Nat.lt_of_lt_of_le k9 (pow_up (by decide)))

end
end CP

namespace CP
open PySem L2
section
variable {P : Program} {w : World} {K : PySem.W.Frag} {mg : Str → Option Value} {base : Heap}
/-- divisions by 1 to 6 alone -/
def Tr6 : Tr → Prop
  | .num _ => True
  | .let _ => True
  | .div a k => k ≤ 6 ∧ Tr6 a
  | .op _ a b => Tr6 a ∧ Tr6 b
def sp_law_tree_n : Nat → Txt K mg → Sp
  | 0, _ => fun _ _ _ _ => False
  | n + 1, _ => fun vs H Q _ => match vs with
    | [.ref p, .int d, .ref a] => ∃ m : Nat, d = m ∧ m ≤ n ∧ n ≤ 3 ∧ ∃ c l, Pu H p c ∧ c + (300 * 2 ^ m - 60) < 2 ^ 58 ∧ H a = some (.lst (strL l)) ∧ a ≠ p ∧ l.length ≤ 8 ∧ (∀ w ∈ l, letB w = true) ∧ ∀ v t H', TrAt H' v t → TrOk l 7 m t → Tr6 t → SB p H H' → Pu H' p (c + (300 * 2 ^ m - 60)) → Q v H'
    | _ => False
theorem if_tC {c : Bool} {a b : V} {σ : L2.St} {H : Hp} {Q : VK} (q : Q (if c = true then a else b) H) : if c = true then tC a σ H Q else tC b σ H Q := by
  cases c
  · exact q
  · exact q
def t_law_tree (n : Nat) (w : World) (T : Txt K mg) : TS := tSeq (tAsg (tCall (sp_law_draw T) [] E0 (tCons (tVar 0) (tCons (tIf (tTest (tOp oGt (tVar 1) (tC (.int 0)))) (tC (.int 7)) (tC (.int 2))) (tNil)))) (gName 3)) (tSeq (tIfS (tTest (tOp rEq (tVar 3) (tC (.int 0)))) (tRet (tTup (tCons (tC (.str "number")) (tCons (tCall (sp_law_one_of T) [] E0 (tCons (tVar 0) (tCons (tLst (tCons (tC (.int 0)) (tCons (tC (.int 1)) (tCons (tC (.int 2)) (tCons (tC (.int 3)) (tCons (tC (.int 7)) (tCons (tC (.int 12)) (tCons (tC (.int 99)) (tNil))))))))) (tNil)))) (tNil))))) (tNext)) (tSeq (tIfS (tOr (tTest (tOp rEq (tVar 3) (tC (.int 1)))) (tTest (tOp (rEqX K) (tVar 2) (tLst (tNil))))) (tRet (tIf (tTest (tOp (rNeX K) (tVar 2) (tLst (tNil)))) (tTup (tCons (tC (.str "letter")) (tCons (tCall (sp_law_one_of T) [] E0 (tCons (tVar 0) (tCons (tVar 2) (tNil)))) (tNil)))) (tTup (tCons (tC (.str "number")) (tCons (tC (.int 5)) (tNil)))))) (tNext)) (tSeq (tIfS (tTest (tOp rEq (tVar 3) (tC (.int 6)))) (tRet (tTup (tCons (tC (.str "divided")) (tCons (tCall (sp_law_tree_n n T) [] E0 (tCons (tVar 0) (tCons (tOp oSub (tVar 1) (tC (.int 1))) (tCons (tVar 2) (tNil))))) (tCons (tOp oAdd (tC (.int 1)) (tCall (sp_law_draw T) [] E0 (tCons (tVar 0) (tCons (tC (.int 6)) (tNil))))) (tNil)))))) (tNext)) (tSeq (tAsg (tOp (rIxL K) (tLst (tCons (tC (.str "plus")) (tCons (tC (.str "plus")) (tCons (tC (.str "minus")) (tCons (tC (.str "times")) (tNil)))))) (tOp oSub (tVar 3) (tC (.int 2)))) (gName 4)) (tRet (tTup (tCons (tVar 4) (tCons (tCall (sp_law_tree_n n T) [] E0 (tCons (tVar 0) (tCons (tOp oSub (tVar 1) (tC (.int 1))) (tCons (tVar 2) (tNil))))) (tCons (tCall (sp_law_tree_n n T) [] E0 (tCons (tVar 0) (tCons (tOp oSub (tVar 1) (tC (.int 1))) (tCons (tVar 2) (tNil))))) (tNil))))))))))
theorem no_law_tree (T : Txt K mg) (vs : List V) (H : Hp) (Q : VK) (E : XK) : ¬ sp_law_tree_n 0 T vs H Q E := fun h => h
theorem len_law_tree (T : Txt K mg) : ∀ (n : Nat) (vs : List V) (H : Hp) (Q : VK) (E : XK), sp_law_tree_n n T vs H Q E → vs.length = (["_law_purse_here", "_law_depth", "_law_names_here"] : List Str).length := by
  intro n vs H Q E h
  cases n with
  | zero => exact (no_law_tree T vs H Q E h).elim
  | succ n =>
    dsimp only [sp_law_tree_n] at h
    split at h
    all_goals first | rfl | exact h.elim
theorem rd_law_tree (T : Txt K mg) (n : Nat) (vs : List V) (H : Hp) (Q : VK) (E : XK) (h : sp_law_tree_n (n + 1) T vs H Q E) : t_law_tree n w T { nx := fun _ H' => Q .non H', rt := Q } (start ["_law_purse_here", "_law_depth", "_law_names_here", "_law_way", "_law_word"] vs) H := by
  match vs, h with
  | [.ref p, .int d, .ref a], h =>
  generalize n = N at h ⊢

  obtain ⟨n, rfl, hnN, hN, c, l, hp, hz, ha, ap, hl, hL, q⟩ := h
  have hn : n ≤ 3 := by omega
  have sz : sizeLine = 16777216 := rfl
  unfold t_law_tree
  walk_at "st"
  repeat walk_at "w"
  have c1 : (300 : Int) * 2 ^ n ≤ 300 * 8 := by
    have : n = 0 ∨ n = 1 ∨ n = 2 ∨ n = 3 := by omega
    rcases this with rfl | rfl | rfl | rfl <;> decide
  have p2 : 1 ≤ (2 : Int) ^ n := by
    have : n = 0 ∨ n = 1 ∨ n = 2 ∨ n = 3 := by omega
    rcases this with rfl | rfl | rfl | rfl <;> decide
  refine if_tC ?_
  obtain ⟨m, em, hm⟩ : ∃ m : Int, (if decide (0 < (n : Int)) = true then V.int 7 else V.int 2) = V.int m ∧ (m = 7 ∧ 1 ≤ n ∨ m = 2) := by
    by_cases k : 0 < (n : Int)
    · exact ⟨7, by rw [decide_eq_true k]; rfl, .inl ⟨rfl, by omega⟩⟩
    · exact ⟨2, by rw [decide_eq_false k]; rfl, .inr rfl⟩
  rw [em]
  repeat walk_at "w"
  refine ⟨c, hp, by omega, by omega, by omega, fun way H1 w0 w1 b1 hp1 => ?_⟩
  have ha1 := b1 _ _ ap ha
  repeat walk_at "w"
  refine if_d (fun k => ?_) fun k => ?_
  · repeat walk_at "w"
    rename_i xs H2 xs0 s2 hxs
    refine ⟨_, _, hp1.mono s2, by omega, hxs, hp1.ne xs0, by decide, by decide, fun v H3 hv b3 hp3 => ?_⟩
    obtain ⟨i, rfl, hi⟩ : ∃ i : Int, v = .int i ∧ i.natAbs < 2 ^ 7 := by
      simp only [List.mem_cons, List.mem_nil_iff, or_false] at hv
      rcases hv with rfl | rfl | rfl | rfl | rfl | rfl | rfl <;> exact ⟨_, rfl, by decide⟩
    repeat walk_at "w"
    rename_i t H4 t0 s4 ht
    exact q _ (.num i) _ ⟨t, rfl, ht⟩ (by cases n <;> exact hi) trivial (SB.trans' (SB.trans' b1 (Same.sb' s2)) (SB.trans' b3 (Same.sb' s4))) ((hp3.mono s4).up (by omega))
  · repeat walk_at "w"
    have lay := lay_strs (xs := l) fun x hx => let_lay (hL x hx)
    have dps : ∀ {H : Hp}, ∃ ds, DpAll K H (strL l) ds ∧ PyData.canLayAll0 ds = true ∧ PyData.depthAll ds ≤ 60 := ⟨_, dpA_strs l, lay.1, by rw [lay.2]; decide⟩
    have five : ∀ {H3 : Hp} {t : Addr}, Same H1 H3 → H3 t = some (.tup [.str "number", .int 5]) → Q (.ref t) H3 := fun {H3 t} s3 ht => q _ (.num 5) _ ⟨t, rfl, ht⟩ (by cases n <;> exact (by decide : (5 : Int).natAbs < 2 ^ 7)) trivial (SB.trans' b1 (Same.sb' s3)) ((hp1.mono s3).up (by omega))
    refine if_d (fun k1 => ?_) fun k1 => ?_
    · repeat walk_at "w"
      rename_i e H2 e0 s2 he
      refine nil_neX (.of (CP.Same.to s2 ha1)) (.of he) dps ?_
      cases l with
      | nil =>
        repeat walk_at "w"
        refine if_f ?_
        repeat walk_at "w"
        rename_i t H3 t0 s3 ht
        exact five (s2.trans s3) ht
      | cons w l' =>
        repeat walk_at "w"
        refine if_t ?_
        repeat walk_at "w"
        refine ⟨_, _, hp1.mono s2, by omega, CP.Same.to s2 ha1, ap, by rw [strL_len]; exact Nat.succ_pos _, by rw [strL_len]; omega, fun v H3 hv b3 hp3 => ?_⟩
        obtain ⟨z, hz', rfl⟩ := List.mem_map.mp hv
        repeat walk_at "w"
        rename_i t H4 t0 s4 ht
        exact q _ (.let z) _ ⟨t, rfl, ht⟩ (by cases n <;> exact hz') trivial (SB.trans' (SB.trans' b1 (Same.sb' s2)) (SB.trans' b3 (Same.sb' s4))) ((hp3.mono s4).up (by omega))
    · repeat walk_at "w"
      rename_i e H2 e0 s2 he
      refine nil_eqX (.of (CP.Same.to s2 ha1)) (.of he) dps ?_
      have ha2 := CP.Same.to s2 ha1
      have hp2 := hp1.mono s2
      cases l with
      | nil =>
        repeat walk_at "w"
        refine if_t ?_
        repeat walk_at "w"
        rename_i e2 H3 e20 s3 he2
        refine nil_neX (.of (CP.Same.to s3 ha2)) (.of he2) dps ?_
        repeat walk_at "w"
        refine if_f ?_
        repeat walk_at "w"
        rename_i t H4 t0 s4 ht
        exact five (s2.trans (s3.trans s4)) ht
      | cons w l' =>
        repeat walk_at "w"
        refine if_f ?_
        repeat walk_at "w"
        have hm7 : m = 7 ∧ 1 ≤ n := by omega
        obtain ⟨n, rfl⟩ : ∃ j, n = j + 1 := ⟨n - 1, by omega⟩
        obtain ⟨N, rfl⟩ : ∃ j, N = j + 1 := ⟨N - 1, by omega⟩
        have p3 : (300 : Int) * 2 ^ (n + 1) = 300 * 2 ^ n + 300 * 2 ^ n := by rw [Int.pow_succ]; omega
        have p4 : 1 ≤ (2 : Int) ^ n := by
          have : n = 0 ∨ n = 1 ∨ n = 2 := by omega
          rcases this with rfl | rfl | rfl <;> decide
        have go : ∀ {K3 : VK} {E3 : XK} {H3 : Hp} {c3 : Int}, Pu H3 p c3 → c3 + (300 * 2 ^ n - 60) < 2 ^ 58 → H3 a = some (.lst (strL (w :: l'))) → (∀ v t H', TrAt H' v t → TrOk (w :: l') 7 n t → Tr6 t → SB p H3 H' → Pu H' p (c3 + (300 * 2 ^ n - 60)) → K3 v H') → sp_law_tree_n (N + 1) T [.ref p, .int (((n + 1 : Nat) : Int) - 1), .ref a] H3 K3 E3 := fun h3 z3 a3 q3 =>
          ⟨n, by omega, by omega, by omega, _, _, h3, z3, a3, ap, hl, hL, q3⟩
        refine if_d (fun k2 => ?_) fun k2 => ?_
        · repeat walk_at "w"
          refine go hp2 (by omega) ha2 fun v t H3 ht hk h6 b3 hp3 => ?_
          repeat walk_at "w"
          refine ⟨_, hp3, by omega, by decide, by decide, fun d H4 d0 d1 b4 hp4 => ?_⟩
          repeat walk_at "w"
          rename_i r H5 r0 s5 hr
          obtain ⟨x, y, zz, ii, e3, _⟩ := hp3
          exact q _ (.div t (1 + d)) _ ⟨r, v, rfl, hr, (ht.stay (stay_sb e3 b4)).stay (stay_same s5)⟩ ⟨by omega, by omega, hk⟩ ⟨by omega, h6⟩ (SB.trans' (SB.trans' (SB.trans' b1 (Same.sb' s2)) b3) (SB.trans' b4 (Same.sb' s5))) ((hp4.mono s5).up (by omega))
        · repeat walk_at "w"
          rename_i ws H3 ws0 s3 hws
          have i4 : ∃ j : Nat, way - 2 = (j : Int) ∧ j < 4 := ⟨(way - 2).toNat, by omega, by omega⟩
          obtain ⟨j, ej, hj⟩ := i4
          obtain ⟨o, ho⟩ : ∃ o : Ow, ([.str "plus", .str "plus", .str "minus", .str "times"] : List V)[j]? = some (.str o.word) := by
            have : j = 0 ∨ j = 1 ∨ j = 2 ∨ j = 3 := by omega
            rcases this with rfl | rfl | rfl | rfl
            · exact ⟨.plus, rfl⟩
            · exact ⟨.plus, rfl⟩
            · exact ⟨.minus, rfl⟩
            · exact ⟨.times, rfl⟩
          rw [ej]
          refine r_ixL (.of hws) (v := .str o.word) (atI_nat ho) ?_
          have hp3 := hp2.mono s3
          repeat walk_at "w"
          refine go hp3 (by omega) (CP.Same.to s3 ha2) fun v t H4 ht hk h6 b4 hp4 => ?_
          repeat walk_at "w"
          refine go hp4 (by omega) (b4 _ _ ap (CP.Same.to s3 ha2)) fun v2 t2 H5 ht2 hk2 h62 b5 hp5 => ?_
          repeat walk_at "w"
          rename_i r H6 r0 s6 hr
          obtain ⟨x, y, zz, ii, e4, _⟩ := hp4
          exact q _ (.op o t t2) _ ⟨r, v, v2, rfl, hr, (ht.stay (stay_sb e4 b5)).stay (stay_same s6), ht2.stay (stay_same s6)⟩ ⟨hk, hk2⟩ ⟨h6, h62⟩ (SB.trans' (SB.trans' (SB.trans' b1 (Same.sb' (s2.trans s3))) b4) (SB.trans' b5 (Same.sb' s6))) ((hp5.mono s6).up (by omega))

theorem okn_law_tree (T : Txt K mg) : ∀ n : Nat, FnOk T.z.1 T.z.2 K mg base CX0 (3 + n) T.a_law_tree T.fd_law_tree ["_law_purse_here", "_law_depth", "_law_names_here"] (sp_law_tree_n n T)
  | 0 => ⟨fun vs H Q E h => absurd h (no_law_tree T vs H Q E), fun A outer s H args us vs Q E _ _ _ _ h => absurd h (no_law_tree T vs H Q E)⟩
  | n + 1 => by
    have ih := okn_law_tree T n
    exact T.F_law_tree.ok sc_law_tree (len_law_tree T (n + 1)) fun cdv A outer s H vs Q E hr h => ⟨t_law_tree n T.z.2 T, (pss_cons (ps_set (i := 3) sc_law_tree.nd rfl (Or.inl rfl) (pe_call (ok_law_draw T) (hr.mono (by (try simp only [Nat.add_eq]); omega)) (by rfl) T.m__law_draw T.F_law_draw.kp (b_law_draw T) .nil pass0 (pa_cons (pv 0) (pa_cons (pe_ifExp (pt_cmpR op_gt (pv 1) pe_int (nomark _)) pe_int pe_int) pa_nil))))
      (pss_cons (ps_if (pt_cmpR op_eq (pv 3) pe_int (nomark _)) (pss_one (ps_ret (pe_tup (pa_cons pe_str (pa_cons (pe_call (ok_law_one_of T) (hr.mono (by (try simp only [Nat.add_eq]); omega)) (by rfl) T.m__law_one_of T.F_law_one_of.kp (b_law_one_of T) .nil pass0 (pa_cons (pv 0) (pa_cons (pe_lst (pa_cons pe_int (pa_cons pe_int (pa_cons pe_int (pa_cons pe_int (pa_cons pe_int (pa_cons pe_int (pa_cons pe_int pa_nil)))))))) pa_nil))) pa_nil))))) pss_nil)
      (pss_cons (ps_if (PW.pt (pw_or (pt_cmpR op_eq (pv 3) pe_int (nomark _)) (pw_or1 (pt_cmpR (op_eqX hr.units) (pv 2) (pe_lst pa_nil) (nomark _))))) (pss_one (ps_ret (pe_ifExp (pt_cmpR (op_neX hr.units) (pv 2) (pe_lst pa_nil) (nomark _)) (pe_tup (pa_cons pe_str (pa_cons (pe_call (ok_law_one_of T) (hr.mono (by (try simp only [Nat.add_eq]); omega)) (by rfl) T.m__law_one_of T.F_law_one_of.kp (b_law_one_of T) .nil pass0 (pa_cons (pv 0) (pa_cons (pv 2) pa_nil))) pa_nil))) (pe_tup (pa_cons pe_str (pa_cons pe_int pa_nil)))))) pss_nil)
      (pss_cons (ps_if (pt_cmpR op_eq (pv 3) pe_int (nomark _)) (pss_one (ps_ret (pe_tup (pa_cons pe_str (pa_cons (pe_call ih (hr.mono (by (try simp only [Nat.add_eq]); omega)) (by rfl) T.m__law_tree T.F_law_tree.kp (b_law_tree T) .nil pass0 (pa_cons (pv 0) (pa_cons (pe_op op_sub (pv 1) pe_int) (pa_cons (pv 2) pa_nil)))) (pa_cons (pe_op op_add pe_int (pe_call (ok_law_draw T) (hr.mono (by (try simp only [Nat.add_eq]); omega)) (by rfl) T.m__law_draw T.F_law_draw.kp (b_law_draw T) .nil pass0 (pa_cons (pv 0) (pa_cons pe_int pa_nil)))) pa_nil)))))) pss_nil)
      (pss_cons (ps_set (i := 4) sc_law_tree.nd rfl (Or.inl rfl) (pe_ix ix_list (pe_lst (pa_cons pe_str (pa_cons pe_str (pa_cons pe_str (pa_cons pe_str pa_nil))))) (pe_op op_sub (pv 3) pe_int) (fun _ _ => rfl)))
      (pss_one (ps_ret (pe_tup (pa_cons (pv 4) (pa_cons (pe_call ih (hr.mono (by (try simp only [Nat.add_eq]); omega)) (by rfl) T.m__law_tree T.F_law_tree.kp (b_law_tree T) .nil pass0 (pa_cons (pv 0) (pa_cons (pe_op op_sub (pv 1) pe_int) (pa_cons (pv 2) pa_nil)))) (pa_cons (pe_call ih (hr.mono (by (try simp only [Nat.add_eq]); omega)) (by rfl) T.m__law_tree T.F_law_tree.kp (b_law_tree T) .nil pass0 (pa_cons (pv 0) (pa_cons (pe_op op_sub (pv 1) pe_int) (pa_cons (pv 2) pa_nil)))) pa_nil))))))))))), rd_law_tree T n vs H Q E h⟩
def sp_law_tree (T : Txt K mg) : Sp := sp_law_tree_n 4 T
theorem ok_law_tree (T : Txt K mg) : FnOk T.z.1 T.z.2 K mg base CX0 7 T.a_law_tree T.fd_law_tree ["_law_purse_here", "_law_depth", "_law_names_here"] (sp_law_tree T) := okn_law_tree T 4
end
end CP

namespace CP
open PySem L2
section
/-! what law_put_right puts in, and what comes out -/
theorem made_den {rs : List Tm} {u : Int} (h : 0 < u) : (madeM rs u).2 ∣ u := by
  obtain ⟨d1, d2⟩ := divM_dvd (keptM rs) u
  exact ⟨divM (keptM rs) u, (Int.ediv_mul_cancel d1).symm⟩
theorem six_dvd {k : Int} (h1 : 1 ≤ k) (h6 : k ≤ 6) : k ∣ 60 := by
  have : k = 1 ∨ k = 2 ∨ k = 3 ∨ k = 4 ∨ k = 5 ∨ k = 6 := by omega
  rcases this with rfl | rfl | rfl | rfl | rfl | rfl
  · exact ⟨60, rfl⟩
  · exact ⟨30, rfl⟩
  · exact ⟨20, rfl⟩
  · exact ⟨15, rfl⟩
  · exact ⟨12, rfl⟩
  · exact ⟨10, rfl⟩
theorem pow_two {a : Int} {n : Nat} (h : n + 1 ≤ 2) {x y : Int} (hx : x ∣ a ^ n) (hy : y ∣ a ^ n) : x * y ∣ a ^ (n + 1) := by
  have : n = 0 ∨ n = 1 := by omega
  rcases this with rfl | rfl
  · rw [Int.pow_zero] at hx hy
    have := Int.mul_dvd_mul hx hy
    exact Int.dvd_trans this ⟨a ^ (0 + 1), by omega⟩
  · rw [Int.pow_succ]
    exact Int.mul_dvd_mul hx (by rw [Int.pow_succ, Int.pow_zero, Int.one_mul] at hy; exact hy)
theorem tr_den {L : List Str} : ∀ {n : Nat} {t : Tr}, TrOk L 7 n t → n ≤ 2 → Tr6 t → (formM t).2 ∣ 60 ^ n
  | n, .num i, _, _, _ => Int.dvd_trans (made_den (by decide)) ⟨60 ^ n, by omega⟩
  | n, .let w, _, _, _ => ⟨60 ^ n, by show _ = 1 * _; omega⟩
  | 0, .div a i, z, _, _ => z.elim
  | 0, .op _ a b, z, _, _ => z.elim
  | n + 1, .div a i, z, h, s => by
    have f := tr_den z.2.2 (by omega) s.2
    have q := tr_fq3 z.2.2 (by omega)
    have p := z.1
    refine Int.dvd_trans (made_den (Int.mul_pos q.pos (by omega))) ?_
    rw [Int.pow_succ, show (i.natAbs : Int) = i by omega]
    exact Int.mul_dvd_mul f (six_dvd p s.1)
  | n + 1, .op o a b, z, h, s => by
    have f := tr_den z.1 (by omega) s.1
    have g := tr_den z.2 (by omega) s.2
    have qf := tr_fq3 z.1 (by omega)
    have qg := tr_fq3 z.2 (by omega)
    have m := pow_two h f g
    cases o with
    | times => exact Int.dvd_trans (made_den (Int.mul_pos qf.pos qg.pos)) m
    | minus => exact Int.dvd_trans (made_den (Int.mul_pos qf.pos (by have := qg.pos; exact this))) m
    | plus => exact Int.dvd_trans (made_den (Int.mul_pos qf.pos qg.pos)) m
theorem tr_low {L : List Str} {v : Str → Int} : ∀ {n : Nat} {t : Tr}, TrOk L 7 n t → n ≤ 2 → Tr6 t → (worthM v t).2 ∣ 60 ^ n
  | n, .num i, _, _, _ => ⟨60 ^ n, by show _ = 1 * _; omega⟩
  | n, .let w, _, _, _ => ⟨60 ^ n, by show _ = 1 * _; omega⟩
  | 0, .div a i, z, _, _ => z.elim
  | 0, .op _ a b, z, _, _ => z.elim
  | n + 1, .div a i, z, h, s => by
    have f := tr_low (v := v) z.2.2 (by omega) s.2
    rw [Int.pow_succ]
    exact Int.mul_dvd_mul f (six_dvd z.1 s.1)
  | n + 1, .op o a b, z, h, s => by
    have f := tr_low (v := v) z.1 (by omega) s.1
    have g := tr_low (v := v) z.2 (by omega) s.2
    have m := pow_two h f g
    cases o <;> exact m
theorem le_ten {n : Nat} (h : n + 1 ≤ 2) {x y : Int} (x0 : 0 < x) (y0 : 0 < y) (hx : x ≤ 10 ^ n) (hy : y ≤ 10 ^ n) : x * y ≤ 10 ^ (n + 1) := by
  have m := Int.mul_le_mul hx hy (by omega) (Int.le_of_lt (Int.pow_pos (by decide)))
  have : n = 0 ∨ n = 1 := by omega
  rcases this with rfl | rfl
  · exact Int.le_trans m (by decide)
  · exact Int.le_trans m (by decide)
theorem made_le {rs : List Tm} {u : Int} (h : 0 < u) : (madeM rs u).2 ≤ u := Int.le_of_dvd h (made_den h)
theorem tr_ten {L : List Str} : ∀ {n : Nat} {t : Tr}, TrOk L 7 n t → n ≤ 2 → (formM t).2 ≤ 10 ^ n
  | n, .num i, _, _ => Int.le_trans (made_le (by decide)) (by have : (0 : Int) < 10 ^ n := Int.pow_pos (by decide); omega)
  | n, .let w, _, _ => by
    have : (0 : Int) < 10 ^ n := Int.pow_pos (by decide)
    show (1 : Int) ≤ _
    omega
  | 0, .div a i, z, _ => z.elim
  | 0, .op _ a b, z, _ => z.elim
  | n + 1, .div a i, z, h => by
    have f := tr_ten z.2.2 (by omega)
    have q := tr_fq3 z.2.2 (by omega)
    have p := z.1
    refine Int.le_trans (made_le (Int.mul_pos q.pos (by omega))) ?_
    rw [Int.pow_succ]
    exact Int.mul_le_mul f (by have := z.2.1; omega) (by omega) (Int.le_of_lt (Int.pow_pos (by decide)))
  | n + 1, .op o a b, z, h => by
    have f := tr_ten z.1 (by omega)
    have g := tr_ten z.2 (by omega)
    have qf := tr_fq3 z.1 (by omega)
    have qg := tr_fq3 z.2 (by omega)
    have m := le_ten h qf.pos qg.pos f g
    cases o with
    | times => exact Int.le_trans (made_le (Int.mul_pos qf.pos qg.pos)) m
    | minus => exact Int.le_trans (made_le (Int.mul_pos qf.pos (by have := qg.pos; exact this))) m
    | plus => exact Int.le_trans (made_le (Int.mul_pos qf.pos qg.pos)) m
theorem lin_eqK {φ ψ : List Str → Int} {N : Int} : ∀ {rs : List Tm}, (∀ r ∈ rs, ψ r.1 = N * φ r.1) → lin ψ rs = N * lin φ rs
  | [], _ => by rw [lin_nil, lin_nil, Int.mul_zero]
  | r :: rs, h => by
    rw [lin_cons, lin_cons, lin_eqK fun s hs => h s (List.mem_cons_of_mem _ hs), h r (List.mem_cons_self ..)]
    grind
theorem lin_off {v v' : Str → Int} : ∀ {rs : List Tm}, (∀ r ∈ rs, ∀ w ∈ r.1, v w = v' w) → lin (prodF v) rs = lin (prodF v') rs
  | [], _ => rfl
  | r :: rs, h => by
    have p : ∀ l : List Str, (∀ w ∈ l, v w = v' w) → prodF v l = prodF v' l := fun l => by
      induction l with
      | nil => intro _; rfl
      | cons w l ih =>
        intro hl
        rw [prodF_cons, prodF_cons, hl w (List.mem_cons_self ..), ih fun x hx => hl x (List.mem_cons_of_mem _ hx)]
    rw [lin_cons, lin_cons, p r.1 (h r (List.mem_cons_self ..)), lin_off fun s hs => h s (List.mem_cons_of_mem _ hs)]
/-- a form times a number that its divisor divides -/
theorem whole_fx {L : List Str} {t d b e : Nat} {f : Fm} {N k : Int} (hf : Gf L t d b e f) (ek : N = f.2 * k) : Fx L d (k.natAbs * nrm f.1) 1 (mulM f (numF N)) := by
  have n : Gf L 1 0 N.natAbs 1 (numF N) := Gf.num N Nat.lt_two_pow_self
  have m := hf.mul n
  have p := hf.pos
  refine ⟨m.nd, m.q.no0, m.q.keys, m.pos, by decide, m.r, f.1.map fun r => (r.1, r.2 * k), by rw [nrm_times]; exact Nat.le_refl _, fun φ => ?_⟩
  have ml := made_lin (rs := mulR f.1 (numF N).1) (u := f.2 * (numF N).2) φ
  have lm : lin φ (mulR f.1 (numF N).1) = lin (fun p => lin (fun q => φ (srt (p ++ q))) (numF N).1) f.1 := by
    have := lin_mulR φ (numF N).1 f.1 []
    rw [lin_nil, Int.zero_add] at this
    exact this
  have l2 : lin (fun p => lin (fun q => φ (srt (p ++ q))) (numF N).1) f.1 = N * lin φ f.1 := lin_eqK fun r hr => by
    show lin (fun q => φ (srt (r.1 ++ q))) (madeM [([], N)] 1).1 = _
    rw [lin_num, List.append_nil, (hf.q.keys r.1 (List.mem_map_of_mem hr)).2.2]
  have one : (numF N).2 = 1 := by show (madeM [([], N)] 1).2 = 1; rw [made_row]
  rw [lm, l2, one, Int.mul_one] at ml
  have e : mulM f (numF N) = madeM (mulR f.1 (numF N).1) f.2 := by unfold mulM; rw [one, Int.mul_one]
  rw [e]
  rw [lin_times]
  refine Int.eq_of_mul_eq_mul_right (a := f.2) (by omega) ?_
  rw [ek] at ml ⊢
  generalize lin φ (madeM (mulR f.1 (numF (f.2 * k)).1) f.2).1 = A at *
  generalize (madeM (mulR f.1 (numF (f.2 * k)).1) f.2).2 = S at *
  generalize lin φ f.1 = X at *
  generalize f.2 = F at *
  have h1 : A * ((1 : Nat) : Int) * F = A * F := by simp
  rw [h1, ml]
  grind
theorem vec969 : (vecs 3 16).length = 969 := by decide +kernel
section
variable {l : List Str} {t1 t2 : Tr} {x : Str} {v : Str → Int}
/-- drawn letters -/
structure Lts (l : List Str) : Prop where
  nd : l.Nodup
  three : l.length ≤ 3
  drawn : ∀ w ∈ l, LetD w
theorem Lts.lets (h : Lts l) : ∀ w ∈ l, letB w = true := fun w hw => (h.drawn w hw).1
theorem gf_fr {t d b e : Nat} {f : Fm} (h : Lts l) (hf : Gf l t d b e f) (ht : t ≤ 1000) (hd : d ≤ 16) (hb : b ≤ 200) (he : e ≤ 200) (te : e * t < 7000) : FrOk l f := by
  have fo := hf.ok h.lets ht (by omega) hb he
  have few := hf.q.letters h.nd
  have l3 := h.three
  refine ⟨⟨fo, hf.q.no0, fun r hr => (hf.q.keys r.1 (List.mem_map_of_mem hr)).2.2, fun r hr => by have := (hf.q.keys r.1 (List.mem_map_of_mem hr)).2.1; omega, by unfold letsM; omega, ?_⟩, h.nd, by omega, h.drawn, fun r hr => ?_⟩
  · have p := hf.pos
    obtain ⟨k, ek⟩ := Int.eq_ofNat_of_zero_le (show 0 ≤ f.2 by omega)
    have kd : k ≤ 2 ^ e := by have := hf.q.den; omega
    have h1 : k ^ f.1.length ≤ (2 ^ e) ^ f.1.length := Nat.pow_le_pow_left kd _
    rw [← Nat.pow_mul] at h1
    have h2 : 2 ^ (e * f.1.length) ≤ 2 ^ (e * t) := pow_up (Nat.mul_le_mul_left _ hf.q.len)
    have h3 : 2 ^ (e * t) < 2 ^ 7000 := Nat.pow_lt_pow_right (by decide) te
    rw [ek, ← Int.natCast_pow]
    have e1 : ((2 ^ 7000 : Nat) : Int) = 2 ^ 7000 := Int.natCast_pow 2 7000
    rw [← e1]
    exact Int.ofNat_lt.mpr (Nat.lt_of_le_of_lt (Nat.le_trans h1 h2) h3)
  · have := hf.q.keys r.1 (List.mem_map_of_mem hr)
    exact ⟨this.1, by omega⟩
def putG (t : Tr) : Fm := mulM (formM t) (numF 518400)
theorem putG_fx (h2 : TrOk l 7 2 t2) (s2 : Tr6 t2) : Fx l 4 (2 ^ 47) 1 (putG t2) := by
  have gf := tr_gd h2 (Nat.le_refl 2)
  have dv := tr_den h2 (Nat.le_refl 2) s2
  obtain ⟨k, ek⟩ : (formM t2).2 ∣ 518400 := Int.dvd_trans dv ⟨144, by decide⟩
  have p := gf.pos
  have k1 : k.natAbs ≤ 518400 := by
    have e := congrArg Int.natAbs ek
    rw [Int.natAbs_mul] at e
    have : 1 * k.natAbs ≤ (formM t2).2.natAbs * k.natAbs := Nat.mul_le_mul_right _ (by omega)
    have e2 : (518400 : Int).natAbs = 518400 := rfl
    omega
  refine (whole_fx gf ek).wide (Nat.le_refl _) ?_
  have n1 : nrm (formM t2).1 ≤ 2 ^ 28 := Nat.le_of_lt gf.q.small
  exact Nat.le_trans (Nat.mul_le_mul k1 n1) (by decide)
theorem putG_worth (h2 : TrOk l 7 2 t2) (s2 : Tr6 t2) : Worth v (putG t2) ((worthM v t2).1 * 518400 / (worthM v t2).2) 1 := by
  have gf := tr_gd h2 (Nat.le_refl 2)
  have w := TrOk.worth (m := 7) (by decide) v h2
  have n : Gf l 1 0 20 1 (numF 518400) := Gf.num 518400 (by decide)
  have m := w.mul gf.pos n.pos (Worth.num v 518400)
  have dv : (worthM v t2).2 ∣ 518400 := Int.dvd_trans (tr_low h2 (Nat.le_refl 2) s2) ⟨144, by decide⟩
  have ex := Int.ediv_mul_cancel (Int.dvd_trans dv (Int.dvd_mul_left (worthM v t2).1 518400))
  refine m.re ?_ (by decide)
  rw [Int.mul_one, Int.mul_one]
  exact ex.symm
theorem put_in (h : Lts l) (h2 : TrOk l 7 2 t2) (s2 : Tr6 t2) (c : Nat) : PowIn l (2 ^ 47) c (putG t2) := by
  have g := putG_fx h2 s2
  exact ⟨(g.wide (e := 16) (by decide) (Nat.le_refl _)).ok h.nd h.lets h.three (Nat.le_refl 16) vec16 (by decide) (by decide) (by decide), fun k _ => powM_fx g k⟩
theorem big_mw (h1 : TrOk l 7 2 t1) : mw (2 ^ 47) (formM t1).1 < 2 ^ 200 := Nat.lt_of_le_of_lt (tr_mw (by decide) h1 (Nat.le_refl 2)) (by decide)
theorem put_all (h : Lts l) (h1 : TrOk l 7 2 t1) (h2 : TrOk l 7 2 t2) (s2 : Tr6 t2) : PutOk (formM t1) x (putG t2) ∧ FrOk l (putM (formM t1) x (putG t2)) := by
  have gf := tr_gd h1 (Nat.le_refl 2)
  have big := big_mw h1
  obtain ⟨ok, fx⟩ := put_good (x := x) h.nd h.three h.lets gf.q (by decide) (by decide) (by decide) (put_in h h2 s2 _) (by decide) big (by decide)
  have p := gf.pos
  have ten := tr_ten h1 (Nat.le_refl 2)
  have l3 := h.three
  have e10 : (10 : Int) ^ 2 = 100 := by decide
  have de : (formM t1).2.natAbs < 2 ^ 200 := by
    have : (200 : Nat) < 2 ^ 200 := by decide
    omega
  refine ⟨ok, ⟨fx.ok h.nd h.lets h.three (Nat.le_refl 16) vec16 (by decide) big de, fx.no0, fun r hr => (fx.keys r.1 (List.mem_map_of_mem hr)).2.2, fun r hr => by have := (fx.keys r.1 (List.mem_map_of_mem hr)).2.1; omega, ?_, ?_⟩, h.nd, by omega, h.drawn, fun r hr => ?_⟩
  · have := fx.fq.letters h.nd
    unfold letsM
    omega
  · have fp := fx.pos
    have le := fx.le
    obtain ⟨k, ek⟩ := Int.eq_ofNat_of_zero_le (show 0 ≤ (putM (formM t1) x (putG t2)).2 by omega)
    have kd : k ≤ 2 ^ 7 := by omega
    have few := few_prods h.nd fx.nd fx.keys
    rw [List.length_map] at few
    have few2 := Nat.le_trans few (vecs_mono2 h.three (Nat.le_refl 16))
    rw [vec969] at few2
    have h1 : k ^ (putM (formM t1) x (putG t2)).1.length ≤ (2 ^ 7) ^ (putM (formM t1) x (putG t2)).1.length := Nat.pow_le_pow_left kd _
    rw [← Nat.pow_mul] at h1
    have h2 : 2 ^ (7 * (putM (formM t1) x (putG t2)).1.length) ≤ 2 ^ (7 * 969) := pow_up (Nat.mul_le_mul_left _ few2)
    have h3 : 2 ^ (7 * 969) < 2 ^ 7000 := Nat.pow_lt_pow_right (by decide) (by decide)
    rw [ek, ← Int.natCast_pow]
    have e1 : ((2 ^ 7000 : Nat) : Int) = 2 ^ 7000 := Int.natCast_pow 2 7000
    rw [← e1]
    exact Int.ofNat_lt.mpr (Nat.lt_of_le_of_lt (Nat.le_trans h1 h2) h3)
  · have := fx.keys r.1 (List.mem_map_of_mem hr)
    exact ⟨this.1, this.2.1⟩
theorem put_val (h : Lts l) (h1 : TrOk l 7 2 t1) (h2 : TrOk l 7 2 t2) (s2 : Tr6 t2) : Worth v (putM (formM t1) x (putG t2)) (worthM (atX v x ((worthM v t2).1 * 518400 / (worthM v t2).2)) t1).1 (worthM (atX v x ((worthM v t2).1 * 518400 / (worthM v t2).2)) t1).2 := by
  have gf := tr_gd h1 (Nat.le_refl 2)
  exact put_worth gf.q (put_in h h2 s2 _) (by decide) (fun k _ => powM_worth (putG_fx h2 s2) (putG_worth h2 s2) k) (TrOk.worth (m := 7) (by decide) _ h1)
/-- a letter that does not stand in it -/
theorem put_none (h : Lts l) (h1 : TrOk l 7 2 t1) (h2 : TrOk l 7 2 t2) : PutOk (formM t1) "absent" (formM t2) ∧ eqM (putM (formM t1) "absent" (formM t2)) (formM t1) = true := by
  have gf := tr_gd h1 (Nat.le_refl 2)
  have gg := tr_gd h2 (Nat.le_refl 2)
  have out : ∀ r ∈ (formM t1).1, ∀ w ∈ r.1, w ≠ "absent" := fun r hr w hw => (h.drawn w ((gf.q.keys r.1 (List.mem_map_of_mem hr)).1 w hw)).2.2
  have c0 : cntM (formM t1) "absent" = 0 := by
    unfold cntM
    rcases maxL_mem ((formM t1).1.map fun r => r.1.count ("absent" : Str)) with z | z
    · exact z
    · obtain ⟨r, hr, e⟩ := List.mem_map.mp z
      rw [← e]
      exact List.count_eq_zero.mpr fun m => out r hr _ m rfl
  have pin : PowIn l (2 ^ 47) (cntM (formM t1) "absent") (formM t2) := by
    rw [c0]
    refine ⟨gg.ok h.lets (by decide) (by decide) (by decide) (by decide), fun k hk => ?_⟩
    obtain rfl : k = 0 := by omega
    rw [Nat.mul_zero, Nat.pow_zero]
    exact Fx.numb 1
  obtain ⟨ok, fx⟩ := put_good (x := "absent") h.nd h.three h.lets gf.q (by decide) (by decide) (by decide) pin (by decide) (big_mw h1) (by decide)
  refine ⟨ok, eq_of_worth h.nd fx gf.fx fun v => ?_⟩
  have w := put_worth (v := v) (G := 0) gf.q pin (by decide) (fun k hk => by
    rw [c0] at hk
    obtain rfl : k = 0 := by omega
    rw [Int.pow_zero]
    exact Worth.num v 1) (self_worth gf.pos (atX v "absent" 0))
  have e : lin (prodF (atX v "absent" 0)) (formM t1).1 = lin (prodF v) (formM t1).1 := lin_off fun r hr w hw => if_neg (out r hr w hw)
  rw [e] at w
  exact ⟨_, _, _, _, w, self_worth gf.pos v, rfl⟩
end

end
end CP

namespace CP
open PySem L2
section
variable {P : Program} {w : World} {K : PySem.W.Frag} {mg : Str → Option Value} {base : Heap}
end
end CP

namespace CP
open PySem L2
section
variable {P : Program} {w : World} {K : PySem.W.Frag} {mg : Str → Option Value} {base : Heap}
def sp_letter (T : Txt K mg) : Sp := fun vs H Q _ => match vs with
  | [.str x] => letB x = true ∧ ∀ o H', H o = none → Same H H' → FormZ T.z T.a_Form H' o ([([x], 1)], 1) → Q (.ref o) H'
  | _ => False
@[reducible] def t_letter_0 (w : World) (T : Txt K mg) : TS := tRet (tCall (sp_made T) [] E0 (tCons (tDispZ T.z (tTupZ (tCons (tVar 0) (tNil))) (tC (.int 1))) (tCons (tC (.int 1)) (tNil))))
def t_letter (w : World) (T : Txt K mg) : TS := tSeq (tDrop (tCall (sp_check_letter T) [] E0 (tCons (tVar 0) (tNil)))) (t_letter_0 w T)
theorem len_letter (T : Txt K mg) : ∀ (vs : List V) (H : Hp) (Q : VK) (E : XK), sp_letter T vs H Q E → vs.length = (["name"] : List Str).length := by
  intro vs H Q E h
  unfold sp_letter at h
  split at h
  all_goals first | rfl | exact h.elim
theorem rd_letter (T : Txt K mg) (vs : List V) (H : Hp) (Q : VK) (E : XK) (h : sp_letter T vs H Q E) : t_letter w T { nx := fun _ H' => Q .non H', rt := Q } (start ["name"] vs) H := by
  match vs, h with
  | [.str x], h =>
  obtain ⟨hz, q⟩ := h
  unfold t_letter
  walk_at "st"
  repeat walk_at "w"
  refine ⟨hz, fun H1 s1 => ?_⟩
  repeat walk_at "w"
  refine r_dispZ fun d H2 d0 s2 hd => ?_
  refine r_tupZ ?_
  repeat walk_at "w"
  refine ⟨(by decide : 1 ≤ sizeLine), fun t H3 t0 s3 ht => ?_⟩
  repeat walk_at "w"
  refine ⟨CP.Same.to s3 hd, keyT [x], t, rfl, ht, fun H4 sb hd4 => ?_⟩
  have S4 : Same H H4 := CP.Same.sb (s1.trans (s2.trans s3)) (L2.Same.free s1 d0) sb
  repeat walk_at "w"
  refine ⟨[([x], 1)], hd4, by simp, by decide, by decide, fun o H5 o0 s5 hf => ?_⟩
  rw [made_mono] at hf
  exact q o H5 (L2.Same.free S4 o0) (S4.trans s5) hf

theorem ok_letter (T : Txt K mg) : FnOk T.z.1 T.z.2 K mg base CX0 4 T.a_letter T.fd_letter ["name"] (sp_letter T) :=
  T.F_letter.ok sc_letter (len_letter T) fun cdv A outer s H vs Q E hr h => ⟨t_letter T.z.2 T, (pss_cons (ps_expr (pe_call (ok_check_letter T) (hr.mono (by decide)) (by rfl) T.m_check_letter T.F_check_letter.kp (b_check_letter T) .nil pass0 (pa_cons (pv 0) pa_nil)))
      (pss_one (ps_ret (pe_call (ok_made T) (hr.mono (by decide)) (by rfl) T.m_made T.F_made.kp (b_made T) .nil pass0 (pa_cons (pe_dispZ hr.units0 (pe_tupZ (pa_cons (pv 0) pa_nil)) pe_int) (pa_cons pe_int pa_nil)))))), rd_letter T vs H Q E h⟩
end
end CP

namespace CP
open PySem L2
section
variable {P : Program} {w : World} {K : PySem.W.Frag} {mg : Str → Option Value} {base : Heap}
def sp_law_purses (_ : Txt K mg) : Sp := fun vs H Q _ => match vs with
  | [.ref a, .int f] => ∃ ns : List Int, SqL K H a (ns.map V.int) ∧ ns.length ≤ 63 ∧ 1 ≤ f ∧ f ≤ 100 ∧ ∀ p H' (ps : List Addr), H p = none → Same H H' → H' p = some (.lst (ps.map V.ref)) → ps.Nodup → (∀ q ∈ ps, H q = none ∧ q ≠ p ∧ Pu H' q 0) → (ps.length : Int) ≤ f → Q (.ref p) H'
  | _ => False
def t_law_purses (w : World) (T : Txt K mg) : TS := tRet (tLc (iRng1 (tCons (tCB oMax2 (tCons (tC (.int 1)) (tCons (tCB oMin2 (tCons (tVar 1) (tCons (tCB (rLenA K) (tCons (tVar 0) (tNil))) (tNil)))) (tNil)))) (tNil))) (gName 2) (tYes) (tCall (sp_law_purse T) [] E0 (tCons (tVar 0) (tCons (tVar 2) (tNil)))) [2])
theorem len_law_purses (T : Txt K mg) : ∀ (vs : List V) (H : Hp) (Q : VK) (E : XK), sp_law_purses T vs H Q E → vs.length = (["_law_script", "_law_few"] : List Str).length := by
  intro vs H Q E h
  unfold sp_law_purses at h
  split at h
  all_goals first | rfl | exact h.elim
theorem rd_law_purses (T : Txt K mg) (vs : List V) (H : Hp) (Q : VK) (E : XK) (h : sp_law_purses T vs H Q E) : t_law_purses w T { nx := fun _ H' => Q .non H', rt := Q } (start ["_law_script", "_law_few", "_law_at"] vs) H := by
  match vs, h with
  | [.ref a, .int f], h =>
  obtain ⟨ns, ha, hn, f0, f1, q⟩ := h
  have sz : sizeLine = 16777216 := rfl
  unfold t_law_purses
  walk_at "st"
  repeat walk_at "w"
  generalize hj : (if (if ((ns.map V.int).length : Int) < f then ((ns.map V.int).length : Int) else f) > 1 then (if ((ns.map V.int).length : Int) < f then ((ns.map V.int).length : Int) else f) else 1).toNat = j
  have hj1 : (j : Int) ≤ f := by
    rw [← hj]
    split <;> (try split) <;> omega
  intro D hD
  refine lc_range (fun i H' => Same H H' ∧ ∃ ps : List Addr, H' D = some (.lst (ps.map V.ref)) ∧ ps.length = i ∧ ps.Nodup ∧ ∀ q ∈ ps, H q = none ∧ q ≠ D ∧ Pu H' q 0) ⟨same_new hD, [], upd_same, rfl, .nil, by simp⟩ (fun i H1 hi w => ?_) fun H1 w => ?_
  · obtain ⟨s1, ps, h1, hl, nd, pp⟩ := w
    repeat walk_at "w"
    refine ⟨rfl, r_yes (if_t ?_)⟩
    repeat walk_at "w"
    refine ⟨ns, L2.Same.seq s1 ha, by omega, by omega, fun p H2 p0 s2 hp => ?_⟩
    have pD : p ≠ D := (ne_of_none h1 p0).symm
    refine ⟨_, CP.Same.to s2 h1, by rw [List.length_map]; omega, ?_⟩
    have hb : SB D H2 (upd H2 D (.lst (ps.map V.ref ++ [.ref p]))) := sb_upd
    refine ⟨CP.Same.sb (s1.trans s2) hD hb, ps ++ [p], by rw [upd_same, List.map_append]; rfl, by rw [List.length_append]; simp [hl], ?_, fun q hq => ?_⟩
    · rw [List.nodup_append]
      refine ⟨nd, by simp, fun x hx y hy => ?_⟩
      rw [List.mem_singleton.mp hy]
      exact (pp x hx).2.2.ne p0 |>.symm
    · rcases List.mem_append.mp hq with hq | hq
      · obtain ⟨q1, q2, q3⟩ := pp q hq
        exact ⟨q1, q2, (q3.mono s2).sb hb q2⟩
      · rw [List.mem_singleton.mp hq]
        exact ⟨s1.free p0, pD, hp.sb hb pD⟩
  · obtain ⟨s1, ps, h1, hl, nd, pp⟩ := w
    exact q D H1 ps hD s1 h1 nd pp (by omega)

theorem ok_law_purses (T : Txt K mg) : FnOk T.z.1 T.z.2 K mg base CX0 2 T.a_law_purses T.fd_law_purses ["_law_script", "_law_few"] (sp_law_purses T) :=
  T.F_law_purses.ok sc_law_purses (len_law_purses T) fun cdv A outer s H vs Q E hr h => ⟨t_law_purses T.z.2 T, (pss_one (ps_ret (pe_lc (own := [("_law_at", 2)]) (g := (gName 2)) (tt := tYes) (te := tCall (sp_law_purse T) [] E0 (tCons (tVar 0) (tCons (tVar 2) (tNil)))) rfl sc_law_purses.nd (pi_range1 (by rfl) T.n_range (pa_cons (pe_callB (call_maxA rfl) (by rfl) T.n_max (by decide +kernel) (pa_cons pe_int (pa_cons (pe_callB (call_minA rfl) (by rfl) T.n_min (by decide +kernel) (pa_cons (pv 1) (pa_cons (pe_callB call_lenA (by rfl) T.n_len (by decide +kernel) (pa_cons (pv 0) pa_nil)) pa_nil))) pa_nil))) pa_nil)) (blkOk_by (own := [("_law_at", 2)]) (N := ["_law_script", "_law_few", "_law_at"]) (sc := defScope s_law_purses) (by decide +kernel)) (fun _ _ _ _ _ => (pg_name (i := 2) sc_law_purses.nd rfl (Or.inl rfl))) (fun _ _ _ _ _ => pts_nil) (fun _ _ _ _ _ => (pe_call (ok_law_purse T) (hr.mono (by decide)) (by rfl) T.m__law_purse T.F_law_purse.kp (b_law_purse T) .nil pass0 (pa_cons (pv 0) (pa_cons (pv 2) pa_nil))))))), rd_law_purses T vs H Q E h⟩
end
end CP

namespace CP
open PySem L2
section
variable {P : Program} {w : World} {K : PySem.W.Frag} {mg : Str → Option Value} {base : Heap}
def sp_law_form_n : Nat → Txt K mg → Sp
  | 0, _ => fun _ _ _ _ => False
  | n + 1, T => fun vs H Q _ => match vs with
    | [v] => ∃ t L, TrAt H v t ∧ TrOk L 7 n t ∧ n ≤ 3 ∧ (∀ w ∈ L, letB w = true) ∧ ∀ p H', H p = none → Same H H' → FormZ T.z T.a_Form H' p (formM t) → Q (.ref p) H'
    | _ => False
theorem tr_ok {L : List Str} {n : Nat} {t : Tr} (hL : ∀ w ∈ L, letB w = true) (h : TrOk L 7 n t) (hn : n ≤ 3) : FOk (formM t) := by
  have f := h.fq (by decide)
  have : 2 ^ n ≤ 2 ^ 3 := pow_up hn
  have t1 : 2 ^ 2 ^ n ≤ 2 ^ 8 := pow_up (by omega)
  exact f.ok hL (by omega) (by omega) (by omega) (by omega)
def t_law_form (n : Nat) (w : World) (T : Txt K mg) : TS := tSeq (tIfS (tTest (tOp (rEqX K) (tOp (rIxT K) (tVar 0) (tC (.int 0))) (tC (.str "number")))) (tRet (tCall (sp_number T) [] E0 (tCons (tOp (rIxT K) (tVar 0) (tC (.int 1))) (tNil)))) (tNext)) (tSeq (tIfS (tTest (tOp (rEqX K) (tOp (rIxT K) (tVar 0) (tC (.int 0))) (tC (.str "letter")))) (tRet (tCall (sp_letter T) [] E0 (tCons (tOp (rIxT K) (tVar 0) (tC (.int 1))) (tNil)))) (tNext)) (tSeq (tAsg (tCall (sp_law_form_n n T) [] E0 (tCons (tOp (rIxT K) (tVar 0) (tC (.int 1))) (tNil))) (gName 1)) (tSeq (tIfS (tTest (tOp (rEqX K) (tOp (rIxT K) (tVar 0) (tC (.int 0))) (tC (.str "divided")))) (tRet (tMeth T.a_Form "over" (sp_Form_over T) [] E0 (tVar 1) (tCons (tOp (rIxT K) (tVar 0) (tC (.int 2))) (tNil)))) (tNext)) (tSeq (tAsg (tCall (sp_law_form_n n T) [] E0 (tCons (tOp (rIxT K) (tVar 0) (tC (.int 2))) (tNil))) (gName 2)) (tSeq (tIfS (tTest (tOp (rEqX K) (tOp (rIxT K) (tVar 0) (tC (.int 0))) (tC (.str "times")))) (tRet (tOp (rBinO T.a_Form (sp_Form___mul T) E0) (tVar 1) (tVar 2))) (tNext)) (tRet (tIf (tTest (tOp (rEqX K) (tOp (rIxT K) (tVar 0) (tC (.int 0))) (tC (.str "minus")))) (tOp (rBinO T.a_Form (sp_Form___sub T) E0) (tVar 1) (tVar 2)) (tOp (rBinO T.a_Form (sp_Form___add T) E0) (tVar 1) (tVar 2)))))))))
theorem no_law_form (T : Txt K mg) (vs : List V) (H : Hp) (Q : VK) (E : XK) : ¬ sp_law_form_n 0 T vs H Q E := fun h => h
theorem len_law_form (T : Txt K mg) : ∀ (n : Nat) (vs : List V) (H : Hp) (Q : VK) (E : XK), sp_law_form_n n T vs H Q E → vs.length = (["_law_tree_here"] : List Str).length := by
  intro n vs H Q E h
  cases n with
  | zero => exact (no_law_form T vs H Q E h).elim
  | succ n =>
    dsimp only [sp_law_form_n] at h
    split at h
    all_goals first | rfl | exact h.elim
theorem rd_law_form (T : Txt K mg) (n : Nat) (vs : List V) (H : Hp) (Q : VK) (E : XK) (h : sp_law_form_n (n + 1) T vs H Q E) : t_law_form n w T { nx := fun _ H' => Q .non H', rt := Q } (start ["_law_tree_here", "_law_first", "_law_second"] vs) H := by
  match vs, h with
  | [v], h =>
  obtain ⟨t, L, ht, hk, hn, hL, q⟩ := h
  have sz : sizeLine = 16777216 := rfl
  unfold t_law_form
  walk_at "st"
  repeat walk_at "w"
  cases t with
  | num i =>
    obtain ⟨a, rfl, ha⟩ := ht
    refine r_ixT (i := 0) (.of ha) (v := .str "number") (by rfl) ?_
    repeat walk_at "w"
    rw [w_nn]
    repeat walk_at "w"
    refine r_ixT (i := 1) (.of ha) (v := .int i) (by rfl) ?_
    repeat walk_at "w"
    exact q
  | «let» w =>
    obtain ⟨a, rfl, ha⟩ := ht
    refine r_ixT (i := 0) (.of ha) (v := .str "letter") (by rfl) ?_
    repeat walk_at "w"
    rw [w_ln]
    repeat walk_at "w"
    refine r_ixT (i := 0) (.of ha) (v := .str "letter") (by rfl) ?_
    repeat walk_at "w"
    rw [w_ll]
    repeat walk_at "w"
    refine r_ixT (i := 1) (.of ha) (v := .str w) (by rfl) ?_
    repeat walk_at "w"
    exact ⟨hL w (by cases n <;> exact hk), q⟩
  | div b k =>
    obtain ⟨a, x, rfl, ha, hx⟩ := ht
    refine r_ixT (i := 0) (.of ha) (v := .str "divided") (by rfl) ?_
    repeat walk_at "w"
    rw [w_dn]
    repeat walk_at "w"
    refine r_ixT (i := 0) (.of ha) (v := .str "divided") (by rfl) ?_
    repeat walk_at "w"
    rw [w_dl]
    repeat walk_at "w"
    cases n with
    | zero => exact hk.elim
    | succ n =>
      refine r_ixT (i := 1) (.of ha) (v := x) (by rfl) ?_
      repeat walk_at "w"
      refine ⟨b, L, hx, hk.2.2, by omega, hL, fun o H1 o0 s1 ho => ?_⟩
      have ha1 := CP.Same.to s1 ha
      repeat walk_at "w"
      refine r_ixT (i := 0) (.of ha1) (v := .str "divided") (by rfl) ?_
      repeat walk_at "w"
      rw [w_dd]
      repeat walk_at "w"
      obtain ⟨dx, dd, ho1, _⟩ := id ho
      refine ⟨o, dx, _, rfl, ho1, by rfl, ?_⟩
      repeat walk_at "w"
      refine r_ixT (i := 2) (.of ha1) (v := .int k) (by rfl) ?_
      repeat walk_at "w"
      have k1 := hk.1
      have k2 := hk.2.1
      exact ⟨_, ho, tr_ok hL hk.2.2 (by omega), by omega, by omega, fun p H2 p0 s2 hp => q p H2 (L2.Same.free s1 p0) (s1.trans s2) hp⟩
  | op o b c =>
    obtain ⟨a, x, y, rfl, ha, hx, hy⟩ := ht
    refine r_ixT (i := 0) (.of ha) (v := .str o.word) (by rfl) ?_
    repeat walk_at "w"
    rw [o.out.1]
    repeat walk_at "w"
    refine r_ixT (i := 0) (.of ha) (v := .str o.word) (by rfl) ?_
    repeat walk_at "w"
    rw [o.out.2.1]
    repeat walk_at "w"
    cases n with
    | zero => exact hk.elim
    | succ n =>
      refine r_ixT (i := 1) (.of ha) (v := x) (by rfl) ?_
      repeat walk_at "w"
      refine ⟨b, L, hx, hk.1, by omega, hL, fun f H1 f0 s1 hf => ?_⟩
      have ha1 := CP.Same.to s1 ha
      repeat walk_at "w"
      refine r_ixT (i := 0) (.of ha1) (v := .str o.word) (by rfl) ?_
      repeat walk_at "w"
      rw [o.out.2.2]
      repeat walk_at "w"
      refine r_ixT (i := 2) (.of ha1) (v := y) (by rfl) ?_
      repeat walk_at "w"
      refine ⟨c, L, hy.stay (stay_same s1), hk.2, by omega, hL, fun g H2 g0 s2 hg => ?_⟩
      have ha2 := CP.Same.to s2 ha1
      have S2 := s1.trans s2
      have of := tr_ok hL hk.1 (show n ≤ 3 by omega)
      have og := tr_ok hL hk.2 (show n ≤ 3 by omega)
      have hf2 := hf.mono s2
      obtain ⟨dx, d1, hf3, hd3⟩ := id hf2
      obtain ⟨dy, d2, hg3, hg4⟩ := id hg
      have fin : ∀ p H3, H2 p = none → Same H2 H3 → FormZ T.z T.a_Form H3 p (formM (.op o b c)) → Q (.ref p) H3 := fun p H3 p0 s3 hp => q p H3 (L2.Same.free S2 p0) (S2.trans s3) hp
      repeat walk_at "w"
      refine r_ixT (i := 0) (.of ha2) (v := .str o.word) (by rfl) ?_
      repeat walk_at "w"
      cases o with
      | times =>
        rw [Ow.is .times |>.1]
        repeat walk_at "w"
        exact ⟨f, g, dx, dy, _, _, rfl, rfl, hf3, hg3, formM b, formM c, hf2, .inl ⟨g, rfl, hg⟩, of, og, fun p H3 p0 s3 hp => ⟨p, rfl, fin p H3 p0 s3 hp⟩⟩
      | minus =>
        rw [Ow.is .minus |>.1]
        repeat walk_at "w"
        refine r_ixT (i := 0) (.of ha2) (v := .str Ow.minus.word) (by rfl) ?_
        repeat walk_at "w"
        rw [Ow.is .minus |>.2]
        repeat walk_at "w"
        exact ⟨f, g, dx, dy, _, _, rfl, rfl, hf3, hg3, formM b, formM c, hf2, .inl ⟨g, rfl, hg⟩, of, og, fun p H3 p0 s3 hp => ⟨p, rfl, fin p H3 p0 s3 hp⟩⟩
      | plus =>
        rw [Ow.is .plus |>.1]
        repeat walk_at "w"
        refine r_ixT (i := 0) (.of ha2) (v := .str Ow.plus.word) (by rfl) ?_
        repeat walk_at "w"
        rw [Ow.is .plus |>.2]
        repeat walk_at "w"
        exact ⟨f, g, dx, dy, _, _, rfl, rfl, hf3, hg3, formM b, formM c, hf2, .inl ⟨g, rfl, hg⟩, of, og, fun p H3 p0 s3 hp => ⟨p, rfl, fin p H3 p0 s3 hp⟩⟩

theorem okn_law_form (T : Txt K mg) : ∀ n : Nat, FnOk T.z.1 T.z.2 K mg base CX0 (8 + n) T.a_law_form T.fd_law_form ["_law_tree_here"] (sp_law_form_n n T)
  | 0 => ⟨fun vs H Q E h => absurd h (no_law_form T vs H Q E), fun A outer s H args us vs Q E _ _ _ _ h => absurd h (no_law_form T vs H Q E)⟩
  | n + 1 => by
    have ih := okn_law_form T n
    exact T.F_law_form.ok sc_law_form (len_law_form T (n + 1)) fun cdv A outer s H vs Q E hr h => ⟨t_law_form n T.z.2 T, (pss_cons (ps_if (pt_cmpR (op_eqX hr.units) (pe_ix ix_tup (pv 0) pe_int (fun _ _ => rfl)) pe_str (nomark _)) (pss_one (ps_ret (pe_call (ok_number T) (hr.mono (by (try simp only [Nat.add_eq]); omega)) (by rfl) T.m_number T.F_number.kp (b_number T) .nil pass0 (pa_cons (pe_ix ix_tup (pv 0) pe_int (fun _ _ => rfl)) pa_nil)))) pss_nil)
      (pss_cons (ps_if (pt_cmpR (op_eqX hr.units) (pe_ix ix_tup (pv 0) pe_int (fun _ _ => rfl)) pe_str (nomark _)) (pss_one (ps_ret (pe_call (ok_letter T) (hr.mono (by (try simp only [Nat.add_eq]); omega)) (by rfl) T.m_letter T.F_letter.kp (b_letter T) .nil pass0 (pa_cons (pe_ix ix_tup (pv 0) pe_int (fun _ _ => rfl)) pa_nil)))) pss_nil)
      (pss_cons (ps_set (i := 1) sc_law_form.nd rfl (Or.inl rfl) (pe_call ih (hr.mono (by (try simp only [Nat.add_eq]); omega)) (by rfl) T.m__law_form T.F_law_form.kp (b_law_form T) .nil pass0 (pa_cons (pe_ix ix_tup (pv 0) pe_int (fun _ _ => rfl)) pa_nil)))
      (pss_cons (ps_if (pt_cmpR (op_eqX hr.units) (pe_ix ix_tup (pv 0) pe_int (fun _ _ => rfl)) pe_str (nomark _)) (pss_one (ps_ret (pe_meth (pv 1) T.c_Form T.M_Form_over (ok_Form_over T) (hr.mono (by (try simp only [Nat.add_eq]); omega)) (b_Form_over T) .nil pass0 (pa_cons (pe_ix ix_tup (pv 0) pe_int (fun _ _ => rfl)) pa_nil)))) pss_nil)
      (pss_cons (ps_set (i := 2) sc_law_form.nd rfl (Or.inl rfl) (pe_call ih (hr.mono (by (try simp only [Nat.add_eq]); omega)) (by rfl) T.m__law_form T.F_law_form.kp (b_law_form T) .nil pass0 (pa_cons (pe_ix ix_tup (pv 0) pe_int (fun _ _ => rfl)) pa_nil)))
      (pss_cons (ps_if (pt_cmpR (op_eqX hr.units) (pe_ix ix_tup (pv 0) pe_int (fun _ _ => rfl)) pe_str (nomark _)) (pss_one (ps_ret (pe_op (op_binO (op := .Mult) rfl T.S_Form T.M_Form___mul (ok_Form___mul T) (hr.mono (by (try simp only [Nat.add_eq]); omega)) (b_Form___mul T) pass0) (pv 1) (pv 2)))) pss_nil)
      (pss_one (ps_ret (pe_ifExp (pt_cmpR (op_eqX hr.units) (pe_ix ix_tup (pv 0) pe_int (fun _ _ => rfl)) pe_str (nomark _)) (pe_op (op_binO (op := .Sub) rfl T.S_Form T.M_Form___sub (ok_Form___sub T) (hr.mono (by (try simp only [Nat.add_eq]); omega)) (b_Form___sub T) pass0) (pv 1) (pv 2)) (pe_op (op_binO (op := .Add) rfl T.S_Form T.M_Form___add (ok_Form___add T) (hr.mono (by (try simp only [Nat.add_eq]); omega)) (b_Form___add T) pass0) (pv 1) (pv 2))))))))))), rd_law_form T n vs H Q E h⟩
def sp_law_form (T : Txt K mg) : Sp := sp_law_form_n 4 T
theorem ok_law_form (T : Txt K mg) : FnOk T.z.1 T.z.2 K mg base CX0 12 T.a_law_form T.fd_law_form ["_law_tree_here"] (sp_law_form T) := okn_law_form T 4
end
end CP

namespace CP
open PySem L2
section
variable {P : Program} {w : World} {K : PySem.W.Frag} {mg : Str → Option Value} {base : Heap}
def sp_law_worth_n : Nat → Txt K mg → Sp
  | 0, _ => fun _ _ _ _ => False
  | n + 1, _ => fun vs H Q _ => match vs with
    | [v, .ref d] => ∃ t L kv, TrAt H v t ∧ TrOk L 30 n t ∧ n ≤ 3 ∧ H d = some (.dK (dV kv)) ∧ (∀ w ∈ L, (getD kv w).isSome = true ∧ (atD kv w).natAbs < 2 ^ 400) ∧ ∀ p H', H p = none → Same H H' → H' p = some (.tup [.int (worthM (atD kv) t).1, .int (worthM (atD kv) t).2]) → Q (.ref p) H'
    | _ => False
def t_law_worth (n : Nat) (w : World) (T : Txt K mg) : TS := tSeq (tIfS (tTest (tOp (rEqX K) (tOp (rIxT K) (tVar 0) (tC (.int 0))) (tC (.str "number")))) (tRet (tTup (tCons (tOp (rIxT K) (tVar 0) (tC (.int 1))) (tCons (tC (.int 1)) (tNil))))) (tNext)) (tSeq (tIfS (tTest (tOp (rEqX K) (tOp (rIxT K) (tVar 0) (tC (.int 0))) (tC (.str "letter")))) (tRet (tTup (tCons (tDGet (tVar 1) (tOp (rIxT K) (tVar 0) (tC (.int 1)))) (tCons (tC (.int 1)) (tNil))))) (tNext)) (tSeq (tAsg (tCall (sp_law_worth_n n T) [] E0 (tCons (tOp (rIxT K) (tVar 0) (tC (.int 1))) (tCons (tVar 1) (tNil)))) (gTup K 2 (gCons (gName 2) (gCons (gName 3) gNil)))) (tSeq (tIfS (tTest (tOp (rEqX K) (tOp (rIxT K) (tVar 0) (tC (.int 0))) (tC (.str "divided")))) (tRet (tTup (tCons (tVar 2) (tCons (tOp oMul (tVar 3) (tOp (rIxT K) (tVar 0) (tC (.int 2)))) (tNil))))) (tNext)) (tSeq (tAsg (tCall (sp_law_worth_n n T) [] E0 (tCons (tOp (rIxT K) (tVar 0) (tC (.int 2))) (tCons (tVar 1) (tNil)))) (gTup K 2 (gCons (gName 4) (gCons (gName 5) gNil)))) (tSeq (tIfS (tTest (tOp (rEqX K) (tOp (rIxT K) (tVar 0) (tC (.int 0))) (tC (.str "times")))) (tRet (tTup (tCons (tOp oMul (tVar 2) (tVar 4)) (tCons (tOp oMul (tVar 3) (tVar 5)) (tNil))))) (tNext)) (tSeq (tIfS (tTest (tOp (rEqX K) (tOp (rIxT K) (tVar 0) (tC (.int 0))) (tC (.str "minus")))) (tRet (tTup (tCons (tOp oSub (tOp oMul (tVar 2) (tVar 5)) (tOp oMul (tVar 4) (tVar 3))) (tCons (tOp oMul (tVar 3) (tVar 5)) (tNil))))) (tNext)) (tRet (tTup (tCons (tOp oAdd (tOp oMul (tVar 2) (tVar 5)) (tOp oMul (tVar 4) (tVar 3))) (tCons (tOp oMul (tVar 3) (tVar 5)) (tNil)))))))))))
theorem no_law_worth (T : Txt K mg) (vs : List V) (H : Hp) (Q : VK) (E : XK) : ¬ sp_law_worth_n 0 T vs H Q E := fun h => h
theorem len_law_worth (T : Txt K mg) : ∀ (n : Nat) (vs : List V) (H : Hp) (Q : VK) (E : XK), sp_law_worth_n n T vs H Q E → vs.length = (["_law_tree_here", "_law_values_here"] : List Str).length := by
  intro n vs H Q E h
  cases n with
  | zero => exact (no_law_worth T vs H Q E h).elim
  | succ n =>
    dsimp only [sp_law_worth_n] at h
    split at h
    all_goals first | rfl | exact h.elim
theorem rd_law_worth (T : Txt K mg) (n : Nat) (vs : List V) (H : Hp) (Q : VK) (E : XK) (h : sp_law_worth_n (n + 1) T vs H Q E) : t_law_worth n w T { nx := fun _ H' => Q .non H', rt := Q } (start ["_law_tree_here", "_law_values_here", "_law_first", "_law_under", "_law_second", "_law_lower"] vs) H := by
  match vs, h with
  | [v, .ref d], h =>
  obtain ⟨t, L, kv, ht, hk, hn, hd, hv, q⟩ := h
  have sz : sizeLine = 16777216 := rfl
  unfold t_law_worth
  walk_at "st"
  repeat walk_at "w"
  have vl : ∀ w ∈ L, (atD kv w).natAbs < 2 ^ 400 := fun w hw => (hv w hw).2
  cases t with
  | num i =>
    obtain ⟨a, rfl, ha⟩ := ht
    refine r_ixT (i := 0) (.of ha) (v := .str "number") (by rfl) ?_
    repeat walk_at "w"
    rw [w_nn]
    repeat walk_at "w"
    refine r_ixT (i := 1) (.of ha) (v := .int i) (by rfl) ?_
    repeat walk_at "w"
    rename_i p H1 p0 s1 hp
    exact q p H1 p0 s1 hp
  | «let» w =>
    obtain ⟨a, rfl, ha⟩ := ht
    have hw : w ∈ L := by cases n <;> exact hk
    refine r_ixT (i := 0) (.of ha) (v := .str "letter") (by rfl) ?_
    repeat walk_at "w"
    rw [w_ln]
    repeat walk_at "w"
    refine r_ixT (i := 0) (.of ha) (v := .str "letter") (by rfl) ?_
    repeat walk_at "w"
    rw [w_ll]
    repeat walk_at "w"
    refine r_ixT (i := 1) (.of ha) (v := .str w) (by rfl) ?_
    repeat walk_at "w"
    obtain ⟨g1, g2⟩ := hv w hw
    have e : valV (dV kv) (Sum.inr w) = some (.int (atD kv w)) := by
      rw [dV_val]
      unfold atD
      cases eg : getD kv w with
      | none => rw [eg] at g1; cases g1
      | some z => rfl
    refine ⟨d, .int (atD kv w), rfl, e ▸ DGet.k (k := Sum.inr w) hd, ?_⟩
    repeat walk_at "w"
    rename_i p H1 p0 s1 hp
    exact q p H1 p0 s1 hp
  | div b k =>
    obtain ⟨a, x, rfl, ha, hx⟩ := ht
    refine r_ixT (i := 0) (.of ha) (v := .str "divided") (by rfl) ?_
    repeat walk_at "w"
    rw [w_dn]
    repeat walk_at "w"
    refine r_ixT (i := 0) (.of ha) (v := .str "divided") (by rfl) ?_
    repeat walk_at "w"
    rw [w_dl]
    repeat walk_at "w"
    cases n with
    | zero => exact hk.elim
    | succ n =>
      refine r_ixT (i := 1) (.of ha) (v := x) (by rfl) ?_
      repeat walk_at "w"
      refine ⟨b, L, kv, hx, hk.2.2, by omega, hd, hv, fun o H1 o0 s1 ho => ?_⟩
      have ha1 := CP.Same.to s1 ha
      obtain ⟨l1, l2, l3⟩ := hk.2.2.low4 (by decide) vl
      have n8 : 2 ^ n ≤ 2 ^ 3 := pow_up (by omega)
      have n1 := one_le_two (n := n)
      repeat walk_at "w"
      refine r_ixT (i := 0) (.of ha1) (v := .str "divided") (by rfl) ?_
      repeat walk_at "w"
      rw [w_dd]
      repeat walk_at "w"
      refine r_ixT (i := 2) (.of ha1) (v := .int k) (by rfl) ?_
      repeat walk_at "w"
      have k1 := hk.1
      have k2 := hk.2.1
      refine r_I (cmulW (b := 4) l3 (by omega) (by omega) (by decide) (by omega)) ?_
      repeat walk_at "w"
      rename_i p H2 p0 s2 hp
      exact q p H2 (L2.Same.free s1 p0) (s1.trans s2) hp
  | op o b c =>
    obtain ⟨a, x, y, rfl, ha, hx, hy⟩ := ht
    refine r_ixT (i := 0) (.of ha) (v := .str o.word) (by rfl) ?_
    repeat walk_at "w"
    rw [o.out.1]
    repeat walk_at "w"
    refine r_ixT (i := 0) (.of ha) (v := .str o.word) (by rfl) ?_
    repeat walk_at "w"
    rw [o.out.2.1]
    repeat walk_at "w"
    cases n with
    | zero => exact hk.elim
    | succ n =>
      refine r_ixT (i := 1) (.of ha) (v := x) (by rfl) ?_
      repeat walk_at "w"
      refine ⟨b, L, kv, hx, hk.1, by omega, hd, hv, fun f H1 f0 s1 hf => ?_⟩
      have ha1 := CP.Same.to s1 ha
      obtain ⟨l1, l2, l3⟩ := hk.1.low4 (by decide) vl
      obtain ⟨m1, m2, m3⟩ := hk.2.low4 (by decide) vl
      have n8 : 2 ^ n ≤ 2 ^ 3 := pow_up (by omega)
      have n1 := one_le_two (n := n)
      repeat walk_at "w"
      refine r_ixT (i := 0) (.of ha1) (v := .str o.word) (by rfl) ?_
      repeat walk_at "w"
      rw [o.out.2.2]
      repeat walk_at "w"
      refine r_ixT (i := 2) (.of ha1) (v := y) (by rfl) ?_
      repeat walk_at "w"
      refine ⟨c, L, kv, hy.stay (stay_same s1), hk.2, by omega, CP.Same.to s1 hd, hv, fun g H2 g0 s2 hg => ?_⟩
      have ha2 := CP.Same.to s2 ha1
      have S2 := s1.trans s2
      have fin : ∀ p H3, H2 p = none → Same H2 H3 → H3 p = some (.tup [.int (worthM (atD kv) (.op o b c)).1, .int (worthM (atD kv) (.op o b c)).2]) → Q (.ref p) H3 := fun p H3 p0 s3 hp => q p H3 (L2.Same.free S2 p0) (S2.trans s3) hp
      have w1 := cmulW l1 m3 (by omega) (by omega) (by omega)
      have w2 := cmulW m1 l3 (by omega) (by omega) (by omega)
      have w3 := cmulW l3 m3 (by omega) (by omega) (by omega)
      have w4 := cmulW l1 m1 (by omega) (by omega) (by omega)
      repeat walk_at "w"
      refine r_ixT (i := 0) (.of ha2) (v := .str o.word) (by rfl) ?_
      repeat walk_at "w"
      cases o with
      | times =>
        rw [Ow.is .times |>.1]
        repeat walk_at "w"
        rename_i p H3 p0 s3 hp
        exact fin p H3 p0 s3 hp
      | minus =>
        rw [Ow.is .minus |>.1]
        repeat walk_at "w"
        refine r_ixT (i := 0) (.of ha2) (v := .str Ow.minus.word) (by rfl) ?_
        repeat walk_at "w"
        rw [Ow.is .minus |>.2]
        repeat walk_at "w"
        rename_i p H3 p0 s3 hp
        exact fin p H3 p0 s3 hp
      | plus =>
        rw [Ow.is .plus |>.1]
        repeat walk_at "w"
        refine r_ixT (i := 0) (.of ha2) (v := .str Ow.plus.word) (by rfl) ?_
        repeat walk_at "w"
        rw [Ow.is .plus |>.2]
        repeat walk_at "w"
        rename_i p H3 p0 s3 hp
        exact fin p H3 p0 s3 hp

theorem okn_law_worth (T : Txt K mg) : ∀ n : Nat, FnOk T.z.1 T.z.2 K mg base CX0 (0 + n) T.a_law_worth T.fd_law_worth ["_law_tree_here", "_law_values_here"] (sp_law_worth_n n T)
  | 0 => ⟨fun vs H Q E h => absurd h (no_law_worth T vs H Q E), fun A outer s H args us vs Q E _ _ _ _ h => absurd h (no_law_worth T vs H Q E)⟩
  | n + 1 => by
    have ih := okn_law_worth T n
    exact T.F_law_worth.ok sc_law_worth (len_law_worth T (n + 1)) fun cdv A outer s H vs Q E hr h => ⟨t_law_worth n T.z.2 T, (pss_cons (ps_if (pt_cmpR (op_eqX hr.units) (pe_ix ix_tup (pv 0) pe_int (fun _ _ => rfl)) pe_str (nomark _)) (pss_one (ps_ret (pe_tup (pa_cons (pe_ix ix_tup (pv 0) pe_int (fun _ _ => rfl)) (pa_cons pe_int pa_nil))))) pss_nil)
      (pss_cons (ps_if (pt_cmpR (op_eqX hr.units) (pe_ix ix_tup (pv 0) pe_int (fun _ _ => rfl)) pe_str (nomark _)) (pss_one (ps_ret (pe_tup (pa_cons (pe_dget (hu_of hr) (pv 1) (pe_ix ix_tup (pv 0) pe_int (fun _ _ => rfl)) (fun _ _ => rfl)) (pa_cons pe_int pa_nil))))) pss_nil)
      (pss_cons (ps_asg (pe_call ih (hr.mono (by (try simp only [Nat.add_eq]); omega)) (by rfl) T.m__law_worth T.F_law_worth.kp (b_law_worth T) .nil pass0 (pa_cons (pe_ix ix_tup (pv 0) pe_int (fun _ _ => rfl)) (pa_cons (pv 1) pa_nil))) (pg_tup rfl (pgs_cons (pg_name (i := 2) sc_law_worth.nd rfl (Or.inl rfl)) (pgs_cons (pg_name (i := 3) sc_law_worth.nd rfl (Or.inl rfl)) pgs_nil))))
      (pss_cons (ps_if (pt_cmpR (op_eqX hr.units) (pe_ix ix_tup (pv 0) pe_int (fun _ _ => rfl)) pe_str (nomark _)) (pss_one (ps_ret (pe_tup (pa_cons (pv 2) (pa_cons (pe_op op_mulW (pv 3) (pe_ix ix_tup (pv 0) pe_int (fun _ _ => rfl))) pa_nil))))) pss_nil)
      (pss_cons (ps_asg (pe_call ih (hr.mono (by (try simp only [Nat.add_eq]); omega)) (by rfl) T.m__law_worth T.F_law_worth.kp (b_law_worth T) .nil pass0 (pa_cons (pe_ix ix_tup (pv 0) pe_int (fun _ _ => rfl)) (pa_cons (pv 1) pa_nil))) (pg_tup rfl (pgs_cons (pg_name (i := 4) sc_law_worth.nd rfl (Or.inl rfl)) (pgs_cons (pg_name (i := 5) sc_law_worth.nd rfl (Or.inl rfl)) pgs_nil))))
      (pss_cons (ps_if (pt_cmpR (op_eqX hr.units) (pe_ix ix_tup (pv 0) pe_int (fun _ _ => rfl)) pe_str (nomark _)) (pss_one (ps_ret (pe_tup (pa_cons (pe_op op_mulW (pv 2) (pv 4)) (pa_cons (pe_op op_mulW (pv 3) (pv 5)) pa_nil))))) pss_nil)
      (pss_cons (ps_if (pt_cmpR (op_eqX hr.units) (pe_ix ix_tup (pv 0) pe_int (fun _ _ => rfl)) pe_str (nomark _)) (pss_one (ps_ret (pe_tup (pa_cons (pe_op op_sub (pe_op op_mulW (pv 2) (pv 5)) (pe_op op_mulW (pv 4) (pv 3))) (pa_cons (pe_op op_mulW (pv 3) (pv 5)) pa_nil))))) pss_nil)
      (pss_one (ps_ret (pe_tup (pa_cons (pe_op op_add (pe_op op_mulW (pv 2) (pv 5)) (pe_op op_mulW (pv 4) (pv 3))) (pa_cons (pe_op op_mulW (pv 3) (pv 5)) pa_nil)))))))))))), rd_law_worth T n vs H Q E h⟩
def sp_law_worth (T : Txt K mg) : Sp := sp_law_worth_n 3 T
theorem ok_law_worth (T : Txt K mg) : FnOk T.z.1 T.z.2 K mg base CX0 3 T.a_law_worth T.fd_law_worth ["_law_tree_here", "_law_values_here"] (sp_law_worth T) := okn_law_worth T 3
end
end CP

namespace CP
open PySem L2
section
variable {P : Program} {w : World} {K : PySem.W.Frag} {mg : Str → Option Value} {base : Heap}
def sp_law_whole_at (_ : Txt K mg) : Sp := fun vs H Q _ => match vs with
  | [v, .ref d] => ∃ t L kv, TrAt H v t ∧ TrOk L 30 2 t ∧ H d = some (.dK (dV kv)) ∧ (∀ w ∈ L, (getD kv w).isSome = true ∧ (atD kv w).natAbs < 2 ^ 400) ∧ ∀ H', Same H H' → Q (wholeV (worthM (atD kv) t).1 (worthM (atD kv) t).2) H'
  | _ => False
@[reducible] def t_law_whole_at_0 (w : World) (T : Txt K mg) : TS := tRet (tIf (tTest (tOp rEq (tOp oMod (tVar 2) (tVar 3)) (tC (.int 0)))) (tOp oDiv (tVar 2) (tVar 3)) (tC .non))
def t_law_whole_at (w : World) (T : Txt K mg) : TS := tSeq (tAsg (tCall (sp_law_worth T) [] E0 (tCons (tVar 0) (tCons (tVar 1) (tNil)))) (gTup K 2 (gCons (gName 2) (gCons (gName 3) gNil)))) (t_law_whole_at_0 w T)
theorem len_law_whole_at (T : Txt K mg) : ∀ (vs : List V) (H : Hp) (Q : VK) (E : XK), sp_law_whole_at T vs H Q E → vs.length = (["_law_tree_here", "_law_values_here"] : List Str).length := by
  intro vs H Q E h
  unfold sp_law_whole_at at h
  split at h
  all_goals first | rfl | exact h.elim
theorem rd_law_whole_at (T : Txt K mg) (vs : List V) (H : Hp) (Q : VK) (E : XK) (h : sp_law_whole_at T vs H Q E) : t_law_whole_at w T { nx := fun _ H' => Q .non H', rt := Q } (start ["_law_tree_here", "_law_values_here", "_law_above", "_law_under"] vs) H := by
  match vs, h with
  | [v, .ref d], h =>
  obtain ⟨t, L, kv, ht, hk, hd, hv, q⟩ := h
  have sz : sizeLine = 16777216 := rfl
  obtain ⟨l1, l2, l3⟩ := hk.low4 (v := atD kv) (by decide) fun w hw => (hv w hw).2
  unfold t_law_whole_at
  walk_at "st"
  repeat walk_at "w"
  refine ⟨t, L, kv, ht, hk, by decide, hd, hv, fun p H1 p0 s1 hp => ?_⟩
  repeat walk_at "w"
  unfold wholeV at q
  refine if_d (fun k => ?_) fun k => ?_
  · rw [if_pos k] at q
    repeat walk_at "w"
    exact q H1 s1
  · rw [if_neg k] at q
    repeat walk_at "w"
    exact q H1 s1

theorem ok_law_whole_at (T : Txt K mg) : FnOk T.z.1 T.z.2 K mg base CX0 4 T.a_law_whole_at T.fd_law_whole_at ["_law_tree_here", "_law_values_here"] (sp_law_whole_at T) :=
  T.F_law_whole_at.ok sc_law_whole_at (len_law_whole_at T) fun cdv A outer s H vs Q E hr h => ⟨t_law_whole_at T.z.2 T, (pss_cons (ps_asg (pe_call (ok_law_worth T) (hr.mono (by decide)) (by rfl) T.m__law_worth T.F_law_worth.kp (b_law_worth T) .nil pass0 (pa_cons (pv 0) (pa_cons (pv 1) pa_nil))) (pg_tup rfl (pgs_cons (pg_name (i := 2) sc_law_whole_at.nd rfl (Or.inl rfl)) (pgs_cons (pg_name (i := 3) sc_law_whole_at.nd rfl (Or.inl rfl)) pgs_nil))))
      (pss_one (ps_ret (pe_ifExp (pt_cmpR op_eq (pe_op op_mod (pv 2) (pv 3)) pe_int (nomark _)) (pe_op op_fdivW (pv 2) (pv 3)) pe_non)))), rd_law_whole_at T vs H Q E h⟩
end
end CP

namespace CP
open PySem L2
section
variable {P : Program} {w : World} {K : PySem.W.Frag} {mg : Str → Option Value} {base : Heap}
def sp_law_values (_ : Txt K mg) : Sp := fun vs H Q _ => match vs with
  | [.ref p, .ref a] => ∃ c l, Pu H p c ∧ c < 2 ^ 57 ∧ H a = some (.lst (strL l)) ∧ a ≠ p ∧ l.length ≤ 9 ∧ l.Nodup ∧ ∀ d kv H', kv.map (·.1) = l → (∀ u ∈ kv, u.2.natAbs < 2 ^ 67) → H d = none → SB p H H' → H' d = some (.dK (dV kv)) → Pu H' p (c + 2000) → Q (.ref d) H'
  | _ => False
@[reducible] def t_law_values_0 (w : World) (T : Txt K mg) : TS := sDPut (tVar 2) (tVar 3) (tOp (rIxL K) (tLst (tCons (tC (.int 0)) (tCons (tC (.int 1)) (tCons (tC (.int 2)) (tCons (tC (.int 3)) (tCons (tOp oSub (tC (.int 0)) (tC (.int 1))) (tCons (tCall (sp_law_draw T) [] E0 (tCons (tVar 0) (tCons (tC (.int 99)) (tNil)))) (tCons (tVar 4) (tNil))))))))) (tCall (sp_law_draw T) [] E0 (tCons (tVar 0) (tCons (tC (.int 7)) (tNil)))))
@[reducible] def t_law_values_1 (w : World) (T : Txt K mg) : TS := tSeq (tAsg (tOp oSub (tCall (sp_law_draw T) [] E0 (tCons (tVar 0) (tCons (tOp oPow (tC (.int 10)) (tC (.int 20))) (tNil)))) (tOp oPow (tC (.int 10)) (tC (.int 19)))) (gName 4)) (t_law_values_0 w T)
@[reducible] def t_law_values_2 (w : World) (T : Txt K mg) : TS := tSeq (tFor (iList K (tVar 1)) (gName 3) (t_law_values_1 w T)) (tRet (tVar 2))
def t_law_values (w : World) (T : Txt K mg) : TS := tSeq (tAsg (tDNewK) (gName 2)) (t_law_values_2 w T)
theorem len_law_values (T : Txt K mg) : ∀ (vs : List V) (H : Hp) (Q : VK) (E : XK), sp_law_values T vs H Q E → vs.length = (["_law_purse_here", "_law_names_here"] : List Str).length := by
  intro vs H Q E h
  unfold sp_law_values at h
  split at h
  all_goals first | rfl | exact h.elim
theorem rd_law_values (T : Txt K mg) (vs : List V) (H : Hp) (Q : VK) (E : XK) (h : sp_law_values T vs H Q E) : t_law_values w T { nx := fun _ H' => Q .non H', rt := Q } (start ["_law_purse_here", "_law_names_here", "_law_found", "_law_name", "_law_far"] vs) H := by
  match vs, h with
  | [.ref p, .ref a], h =>
  obtain ⟨c, l, hp, hz, ha, ap, hl, nd, q⟩ := h
  have sz : sizeLine = 16777216 := rfl
  unfold t_law_values
  walk_at "st"
  repeat walk_at "w"
  rename_i d H1 d0 s1 hd
  have pd : p ≠ d := (hp.ne d0).symm
  have hp1 := hp.mono s1
  have da : a ≠ d := ne_of_none ha d0
  have ha1 := CP.Same.to s1 ha
  refine ⟨a, rfl, ⟨_, .of ha1⟩, for_list (K := K) (a := a) (xs := strL l) (fun i σ H' => SB p H H' ∧ (∃ kv, Pu H' p (c + 200 * i) ∧ H' d = some (.dK (dV kv)) ∧ kv.map (·.1) = l.take i ∧ (∀ u ∈ kv, u.2.natAbs < 2 ^ 67)) ∧ ∃ x3 x4, σ = [some (.ref p), some (.ref a), some (.ref d), x3, x4]) ⟨Same.sb' s1, ⟨[], hp1.up (by omega), hd, rfl, by simp⟩, _, _, rfl⟩ (fun _ _ _ _ w => .of (w.1 _ _ ap ha)) ?_ ?_⟩
  · rintro i v σ H4 hx ⟨b4, ⟨kv, hp4, hk, en, hv⟩, x3, x4, rfl⟩
    obtain ⟨w, hw, rfl⟩ := strL_get hx
    have il : i < l.length := (List.getElem?_eq_some_iff.mp hw).1
    have kn : (kv.map (·.1)).Nodup := by rw [en]; exact nd.sublist (List.take_sublist ..)
    have wn : w ∉ kv.map (·.1) := by
      rw [en]
      intro hm
      have := nd
      rw [← List.take_append_drop (i + 1) l, take_succ hw] at this
      exact (List.nodup_append.mp (List.nodup_append.mp this).1).2.2 w hm w (List.mem_singleton.mpr rfl) rfl
    have kl : kv.length = i := by
      have := congrArg List.length en
      rw [List.length_map, List.length_take] at this
      omega
    repeat walk_at "w"
    refine r_I ⟨by decide, by decide, by decide +kernel⟩ ?_
    rw [show ((10 : Int) ^ (20 : Int).toNat) = 100000000000000000000 by decide +kernel]
    repeat walk_at "w"
    refine ⟨_, hp4, by omega, by decide, by decide, fun f H5 f0 f1 b5 hp5 => ?_⟩
    repeat walk_at "w"
    refine r_I ⟨by decide, by decide, by decide +kernel⟩ ?_
    rw [show ((10 : Int) ^ (19 : Int).toNat) = 10000000000000000000 by decide +kernel]
    repeat walk_at "w"
    refine ⟨_, hp5, by omega, by decide, by decide, fun g H6 g0 g1 b6 hp6 => ?_⟩
    repeat walk_at "w"
    rename_i t H7 t0 s7 ht
    have hp7 := hp6.mono s7
    have tp := hp6.ne t0
    refine ⟨_, hp7, by omega, by decide, by decide, fun e H8 e0 e1 b8 hp8 => ?_⟩
    obtain ⟨j, rfl⟩ := Int.eq_ofNat_of_zero_le e0
    obtain ⟨z, hz', zb⟩ : ∃ z : Int, ([.int 0, .int 1, .int 2, .int 3, .int (0 - 1), .int g, .int (f - 10000000000000000000)] : List V)[j]? = some (.int z) ∧ z.natAbs < 2 ^ 67 := by
      have : j = 0 ∨ j = 1 ∨ j = 2 ∨ j = 3 ∨ j = 4 ∨ j = 5 ∨ j = 6 := by omega
      rcases this with rfl | rfl | rfl | rfl | rfl | rfl | rfl
      · exact ⟨0, rfl, by decide⟩
      · exact ⟨1, rfl, by decide⟩
      · exact ⟨2, rfl, by decide⟩
      · exact ⟨3, rfl, by decide⟩
      · exact ⟨0 - 1, rfl, by decide⟩
      · exact ⟨g, rfl, by omega⟩
      · exact ⟨_, rfl, by omega⟩
    refine r_ixL (.of (b8 _ _ tp ht)) (v := .int z) (atI_nat hz') ?_
    have B8 := SB.trans' (SB.trans' b5 b6) (SB.trans' (Same.sb' s7) b8)
    have hk8 := B8 _ _ pd.symm hk
    repeat walk_at "w"
    refine r_dputS hk8 (by unfold dV; rw [List.length_map]; omega) fun H9 b9 h9 => ?_
    rw [dV_put _ _ _ kn, setD_new wn] at h9
    refine ⟨SB.fresh (SB.trans' b4 B8) d0 b9, ⟨_, (hp8.sb b9 pd).up (by omega), h9, by rw [List.map_append, en, take_succ hw]; rfl, fun u hu => ?_⟩, _, _, rfl⟩
    rcases List.mem_append.mp hu with k | k
    · exact hv u k
    · rw [List.mem_singleton.mp k]
      exact zb
  · rintro σ H4 ⟨b4, ⟨kv, hp4, hk, en, hv⟩, x3, x4, rfl⟩
    rw [strL_len, List.take_length] at en
    rw [strL_len] at hp4
    repeat walk_at "w"
    exact q d kv H4 en hv d0 b4 hk (hp4.up (by omega))

theorem ok_law_values (T : Txt K mg) : FnOk T.z.1 T.z.2 K mg base CX0 3 T.a_law_values T.fd_law_values ["_law_purse_here", "_law_names_here"] (sp_law_values T) :=
  T.F_law_values.ok sc_law_values (len_law_values T) fun cdv A outer s H vs Q E hr h => ⟨t_law_values T.z.2 T, (pss_cons (ps_set (i := 2) sc_law_values.nd rfl (Or.inl rfl) pe_dnewK)
      (pss_cons (ps_for PassesOwn.never rfl (pi_list (pv 1)) (pg_name (i := 3) sc_law_values.nd rfl (Or.inl rfl)) (pss_cons (ps_set (i := 4) sc_law_values.nd rfl (Or.inl rfl) (pe_op op_sub (pe_call (ok_law_draw T) (hr.mono (by decide)) (by rfl) T.m__law_draw T.F_law_draw.kp (b_law_draw T) .nil pass0 (pa_cons (pv 0) (pa_cons (pe_op op_powW pe_int pe_int) pa_nil))) (pe_op op_powW pe_int pe_int)))
      (pss_one (ps_dput (hu_of hr) (pv 2) (pv 3) (pe_ix ix_list (pe_lst (pa_cons pe_int (pa_cons pe_int (pa_cons pe_int (pa_cons pe_int (pa_cons (pe_op op_sub pe_int pe_int) (pa_cons (pe_call (ok_law_draw T) (hr.mono (by decide)) (by rfl) T.m__law_draw T.F_law_draw.kp (b_law_draw T) .nil pass0 (pa_cons (pv 0) (pa_cons pe_int pa_nil))) (pa_cons (pv 4) pa_nil)))))))) (pe_call (ok_law_draw T) (hr.mono (by decide)) (by rfl) T.m__law_draw T.F_law_draw.kp (b_law_draw T) .nil pass0 (pa_cons (pv 0) (pa_cons pe_int pa_nil))) (fun _ _ => rfl)) rfl))))
      (pss_one (ps_ret (pv 2))))), rd_law_values T vs H Q E h⟩
end
end CP

namespace CP
open PySem L2
section
variable {P : Program} {w : World} {K : PySem.W.Frag} {mg : Str → Option Value} {base : Heap}
theorem maxL_perm {l m : List Nat} (h : l.Perm m) : maxL l = maxL m := by
  have one : ∀ {l m : List Nat}, l.Perm m → maxL l ≤ maxL m := fun {l m} h => by
    rcases maxL_mem l with z | z
    · omega
    · exact maxL_le (h.mem_iff.mp z)
  exact Nat.le_antisymm (one h) (one h.symm)
theorem deg_terms (f : Fm) : maxL ((termsM f).map fun t => t.2.2.length) = degM f := by
  have e : (termsM f).map (fun t => t.2.2.length) = (ordP (f.1.map (·.1))).map (·.length) := by
    rw [← terms_names, List.map_map]
    rfl
  rw [e]
  have := maxL_perm ((ordP_perm (f.1.map (·.1))).map (·.length))
  rw [this, List.map_map]
  rfl
theorem flat_mem (f : Fm) (w : Str) : w ∈ (termsM f).flatMap (·.2.2) ↔ w ∈ f.1.flatMap fun r => r.1 := by
  rw [List.mem_flatMap, List.mem_flatMap]
  constructor
  · rintro ⟨t, ht, hw⟩
    unfold termsM at ht
    obtain ⟨p, hp, rfl⟩ := List.mem_map.mp ht
    obtain ⟨r, hr, rfl⟩ := List.mem_map.mp ((ordP_perm _).mem_iff.mp hp)
    exact ⟨r, hr, hw⟩
  · rintro ⟨r, hr, hw⟩
    refine ⟨termM f r.1, ?_, hw⟩
    unfold termsM
    exact List.mem_map.mpr ⟨r.1, (ordP_perm _).mem_iff.mpr (List.mem_map_of_mem hr), rfl⟩
def sp_law_form_right (T : Txt K mg) : Sp := fun vs H Q _ => match vs with
  | [.ref p, .ref o, .ref a] => ∃ c f l, Pu H p c ∧ c < 2 ^ 56 ∧ FormZ T.z T.a_Form H o f ∧ FrOk l f ∧ H a = some (.lst (strL l)) ∧ a ≠ p ∧ LamX.Tabs (tabF T.tP) H ∧ ∀ H', SBN p H H' → Pu H' p (c + 6000) → LamX.Tabs (tabF T.tP) H' → Q (.bl true) H'
  | _ => False
@[reducible] def t_law_form_right_0 (w : World) (T : Txt K mg) : TS := tIfS (tNot (tB (tCall (sp_law_terms_right T) [] E0 (tCons (tVar 3) (tCons (tCall (sp_law_values T) [] E0 (tCons (tVar 0) (tCons (tVar 2) (tNil)))) (tCons (tVar 1) (tNil))))))) (tRet (tC (.bl false))) (tNext)
@[reducible] def t_law_form_right_1 (w : World) (T : Txt K mg) : TS := tAsg (tOp rCat (tVar 5) (tOp (rIxT K) (tVar 6) (tC (.int 2)))) (gName 5)
@[reducible] def t_law_form_right_2 (w : World) (T : Txt K mg) : TS := tSeq (tIfS (tOr (tNot (tB (tCB (rIsi K) (tCons (tVar 6) (tCons (tC (.ty "tuple")) (tNil)))))) (tOr (tTest (tOp rNe (tCB (rLenA K) (tCons (tVar 6) (tNil))) (tC (.int 3)))) (tNot (tB (tCB (rIsi K) (tCons (tOp (rIxT K) (tVar 6) (tC (.int 2))) (tCons (tC (.ty "list")) (tNil)))))))) (tRet (tC (.bl false))) (tNext)) (t_law_form_right_1 w T)
@[reducible] def t_law_form_right_3 (w : World) (T : Txt K mg) : TS := tDrop (tBM K "list" rAppend (tVar 10) (tCons (tC (.str "spoilt")) (tNil)))
@[reducible] def t_law_form_right_4 (w : World) (T : Txt K mg) : TS := tRet (tAndV (tOp (rEqX K) (tCB (rRepr K) (tCons (tMeth T.a_Form "terms" (sp_Form_terms T) [] E0 (tVar 1) tNil) (tNil))) (tVar 11)) (tOp (rEqX K) (tMeth T.a_Form "letters" (sp_Form_letters T) [] E0 (tVar 1) tNil) (tCB (rSortT w) (tCons (tCB (rSetF K w) (tCons (tVar 5) (tNil))) (tNil)))))
@[reducible] def t_law_form_right_5 (w : World) (T : Txt K mg) : TS := tSeq (tDrop (tBM K "list" rAppend (tMeth T.a_Form "letters" (sp_Form_letters T) [] E0 (tVar 1) tNil) (tCons (tC (.str "spoilt")) (tNil)))) (t_law_form_right_4 w T)
@[reducible] def t_law_form_right_6 (w : World) (T : Txt K mg) : TS := tSeq (tDrop (tBM K "list" rAppend (tVar 3) (tCons (tC (.str "spoilt")) (tNil)))) (t_law_form_right_5 w T)
@[reducible] def t_law_form_right_7 (w : World) (T : Txt K mg) : TS := tSeq (tFor (iList K (tVar 3)) (gTup K 3 (gCons (gName 8) (gCons (gName 9) (gCons (gName 10) gNil)))) (t_law_form_right_3 w T)) (t_law_form_right_6 w T)
@[reducible] def t_law_form_right_8 (w : World) (T : Txt K mg) : TS := tSeq (tAsg (tCB (rRepr K) (tCons (tVar 3) (tNil))) (gName 11)) (t_law_form_right_7 w T)
@[reducible] def t_law_form_right_9 (w : World) (T : Txt K mg) : TS := tSeq (tIfS (tOr (tTest (tOp (rNeX K) (tMeth T.a_Form "letters" (sp_Form_letters T) [] E0 (tVar 1) tNil) (tCB (rSortT w) (tCons (tCB (rSetF K w) (tCons (tVar 5) (tNil))) (tNil))))) (tTest (tOp rNe (tMeth T.a_Form "degree" (sp_Form_degree T) [] E0 (tVar 1) tNil) (tVar 7)))) (tRet (tC (.bl false))) (tNext)) (t_law_form_right_8 w T)
@[reducible] def t_law_form_right_10 (w : World) (T : Txt K mg) : TS := tSeq (tAsg (tCB (rMax K) (tCons (tOp rCat (tLst (tCons (tC (.int 0)) (tNil))) (tLc (iList K (tVar 3)) (gTup K 3 (gCons (gName 8) (gCons (gName 9) (gCons (gName 10) gNil)))) (tYes) (tCB (rLenA K) (tCons (tVar 10) (tNil))) [8, 9, 10])) (tNil))) (gName 7)) (t_law_form_right_9 w T)
@[reducible] def t_law_form_right_11 (w : World) (T : Txt K mg) : TS := tSeq (tFor (iList K (tVar 3)) (gName 6) (t_law_form_right_2 w T)) (t_law_form_right_10 w T)
@[reducible] def t_law_form_right_12 (w : World) (T : Txt K mg) : TS := tSeq (tAsg (tLst (tNil)) (gName 5)) (t_law_form_right_11 w T)
@[reducible] def t_law_form_right_13 (w : World) (T : Txt K mg) : TS := tSeq (tFor (iRng1 (tCons (tC (.int 3)) (tNil))) (gName 4) (t_law_form_right_0 w T)) (t_law_form_right_12 w T)
def t_law_form_right (w : World) (T : Txt K mg) : TS := tSeq (tAsg (tMeth T.a_Form "terms" (sp_Form_terms T) [] E0 (tVar 1) tNil) (gName 3)) (t_law_form_right_13 w T)
theorem len_law_form_right (T : Txt K mg) : ∀ (vs : List V) (H : Hp) (Q : VK) (E : XK), sp_law_form_right T vs H Q E → vs.length = (["_law_purse_here", "_law_form_here", "_law_names_here"] : List Str).length := by
  intro vs H Q E h
  unfold sp_law_form_right at h
  split at h
  all_goals first | rfl | exact h.elim
theorem rd_law_form_right (T : Txt K mg) (vs : List V) (H : Hp) (Q : VK) (E : XK) (h : sp_law_form_right T vs H Q E) : t_law_form_right w T { nx := fun _ H' => Q .non H', rt := Q } (start ["_law_purse_here", "_law_form_here", "_law_names_here", "_law_terms", "_law_turn", "_law_every", "_law_term", "_law_most", "_law_many", "_law_bottom", "_law_some", "_law_noted"] vs) H := by
  match vs, h with
  | [.ref p, .ref o, .ref a], h =>
  obtain ⟨c, f, l, hp, hc, hf, fr, ha, ap, hT, q⟩ := h
  have szl : sizeLine = 16777216 := rfl
  have tm := fr.tm
  have fo := tm.ok
  unfold t_law_form_right
  walk_at "st"
  repeat walk_at "w"
  refine d_terms hf fo hT fun g H1 g0 e1 T1 ht => ?_
  have hp1 := hp.ext e1
  have hf1 := hf.ext e1
  have ha1 := e1 _ _ ha fun _ z => by cases z
  have gp : g ≠ p := hp.ne g0
  repeat walk_at "w"
  refine for_range (fun i σ H' => SB p H1 H' ∧ Pu H' p (c + 2000 * i) ∧ LamX.Tabs (tabF T.tP) H' ∧ ∃ x4, σ = [some (.ref p), some (.ref o), some (.ref a), some (.ref g), x4, none, none, none, none, none, none, none]) ⟨fun _ _ _ z => z, hp1.up (by omega), T1, _, rfl⟩ ?_ ?_
  · rintro i σ H2 hi ⟨b2, hp2, T2, x4, rfl⟩
    have i3 : i < 3 := hi
    have ha2 := b2 _ _ ap ha1
    repeat walk_at "w"
    refine ⟨_, _, hp2, by omega, ha2, ap, by have := fr.few; omega, fr.nd, fun d kv H3 kk kb d0 b3 hd hp3 => ?_⟩
    have B3 : SB p H1 H3 := SB.trans' b2 b3
    have ht3 := ht.sb gp hp hp1 B3
    repeat walk_at "w"
    refine ⟨f, kv, ht3.at, (SBN.sb B3).form hp1 hf1, tm, fr.vals kk kb, hd, fun H4 s4 => ?_⟩
    have T4 := (tabs_pu T2 hp2 b3).ext s4
    repeat walk_at "w"
    exact ⟨SB.trans' B3 (Same.sb' s4), (hp3.mono s4).up (by omega), T4, _, rfl⟩
  rintro σ H2 ⟨b2, hp2, T2, x4, rfl⟩
  have ht2 := ht.sb gp hp hp1 b2
  have hf2 := (SBN.sb b2).form hp1 hf1
  have ha2 := b2 _ _ ap ha1
  have S2 : SBN p H H2 := (SBN.ext e1).trans (SBN.sb b2)
  clear ht hf1 ha1 b2 e1 T1 hT hp1
  repeat walk_at "w"
  rename_i ev H3 ev0 s3 hev
  obtain ⟨vs, hg2, pt⟩ := id ht2
  have tl := pd_len pt
  have few := fo.few
  have tlen : (termsM f).length = f.1.length := by unfold termsM; rw [List.length_map, (ordP_perm _).length_eq, List.length_map]
  have flat : ∀ i, (((termsM f).take i).flatMap (·.2.2)).length ≤ 16 * i := fun i => by
    induction i with
    | zero => simp
    | succ i ih =>
      by_cases z : i < (termsM f).length
      · rw [take_succ (List.getElem?_eq_getElem z), List.flatMap_append, List.length_append]
        have : ((termsM f)[i]).2.2.length ≤ 16 := by
          obtain ⟨r, hr, e⟩ : ∃ r ∈ f.1, ((termsM f)[i]).2.2 = r.1 := by
            have m : (termsM f)[i] ∈ termsM f := List.getElem_mem z
            generalize (termsM f)[i] = t at m
            unfold termsM at m
            obtain ⟨p, hp, rfl⟩ := List.mem_map.mp m
            obtain ⟨r, hr, rfl⟩ := List.mem_map.mp ((ordP_perm _).mem_iff.mp hp)
            exact ⟨r, hr, rfl⟩
          rw [e]
          exact (fr.keys r hr).2
        simp only [List.flatMap_cons, List.flatMap_nil, List.append_nil]
        omega
      · rw [List.take_of_length_le (by omega)] at ih ⊢
        omega
  have hg3 := CP.Same.to s3 hg2
  refine ⟨g, rfl, ⟨vs, .of hg3⟩, for_list (K := K) (a := g) (xs := vs) (fun i σ H' => Same H3 H' ∧ ∃ e x6, H2 e = none ∧ H' e = some (.lst (strL (((termsM f).take i).flatMap (·.2.2)))) ∧ σ = [some (.ref p), some (.ref o), some (.ref a), some (.ref g), x4, some (.ref e), x6, none, none, none, none, none]) ⟨Same.refl _, ev, _, ev0, hev, rfl⟩ (fun i σ H' _ w => .of (CP.Same.to w.1 hg3)) ?_ ?_⟩
  · rintro i x σ H4 hx ⟨s4, e, x6, e0, he, rfl⟩
    obtain ⟨t, hti, aa, b, rfl, h1, h2, h3⟩ := pd_get pt hx
    have S4 := s3.trans s4
    have h14 := CP.Same.to S4 h1
    have h24 := CP.Same.to S4 h2
    repeat walk_at "w"
    refine r_isi (tk_tup h14) (by decide) ?_
    rw [show ("tuple" == "tuple" || ("tuple" == "bool" && "tuple" == "int")) = true by decide]
    repeat walk_at "w"
    refine (if_neg (by simp)).mpr ?_
    repeat walk_at "w"
    refine r_ixT (i := 2) (.of h14) (v := .ref b) (by rfl) ?_
    repeat walk_at "w"
    refine r_isi (tk_lst h24) (by decide) ?_
    rw [show ("list" == "list" || ("list" == "bool" && "list" == "int")) = true by decide]
    repeat walk_at "w"
    refine r_ixT (i := 2) (.of h14) (v := .ref b) (by rfl) ?_
    have fi := flat i
    have il : i < (termsM f).length := (List.getElem?_eq_some_iff.mp hti).1
    have tb := (tmB_of tm t (List.mem_of_getElem? hti)).len
    refine r_cat he h24 (by rw [strL_len, strL_len]; omega) fun e2 H5 e20 s5 he2 => ?_
    repeat walk_at "w"
    refine ⟨s4.trans s5, e2, _, L2.Same.free S4 e20, ?_, rfl⟩
    rw [take_succ hti, List.flatMap_append]
    simp only [List.flatMap_cons, List.flatMap_nil, List.append_nil]
    rw [strL_app]
    exact he2
  rintro σ H4 ⟨s4, e, x6, e0, he, rfl⟩
  rw [tl, List.take_length] at he
  have S24 := s3.trans s4
  have ht4 := ht2.mono S24
  have hf4 := hf2.mono S24
  have hp4 := hp2.mono S24
  have T4 := T2.ext S24
  have S4 : SBN p H H4 := S2.trans (SBN.same S24)
  have hg4 := CP.Same.to s4 hg3
  have pt4 : Paired (TermN H H4) vs (termsM f) := pd_mono pt fun _ _ w => w.mono S24
  obtain ⟨bs, pa2, pb2⟩ := TermsN.inner pt
  have pa : Paired (fun v b => ∃ (a : Addr) (x y : Int), v = .ref a ∧ H4 a = some (.tup [.int x, .int y, .ref b])) vs bs := pd_mono pa2 fun _ _ ⟨a, x, y, e, h⟩ => ⟨a, x, y, e, S24 _ _ h⟩
  have pb : Paired (fun b (t : Int × Int × List Str) => H4 b = some (.lst (strL t.2.2)) ∧ NewN H b) bs (termsM f) := pd_mono pb2 fun _ _ ⟨h, n⟩ => ⟨S24 _ _ h, n⟩
  have ebs : e ∉ bs := fun m => by
    obtain ⟨k, hk, ek⟩ := List.mem_iff_getElem.mp m
    obtain ⟨t, _, h, _⟩ := pd_get pb2 (List.getElem?_eq_getElem hk)
    rw [ek, e0] at h
    cases h
  have eg : e ≠ g := fun z => by rw [z, hg2] at e0; cases e0
  have pe : e ≠ p := hp2.ne e0
  clear hf2 hp2 T2 ht2 pt s3 s4 hev ev0 hg3 hg2 pa2 pb2 e0
  repeat walk_at "w"
  rename_i zl H5 zl0 s5 hzl
  have hg5 := CP.Same.to s5 hg4
  refine ⟨g, rfl, ⟨vs, .of hg5⟩, fun D D0 => lc_valsL ((termsM f).map fun t => V.int (t.2.2.length : Nat)) D0 (.of hg5) (by rw [List.length_map, tl]) (by rw [List.length_map]; omega) (fun k x y H6 hx hy s6 N no yes => ?_) fun H6 s6 hD => ?_⟩
  · obtain ⟨t, hti, aa, b, rfl, h1, h2, h3⟩ := pd_get pt4 hx
    have h16 := CP.Same.to (s5.trans s6) h1
    have h26 := CP.Same.to (s5.trans s6) h2
    rw [List.getElem?_map, hti] at hy
    obtain rfl := Option.some.inj hy
    repeat walk_at "w"
    refine ⟨rfl, r_yes (if_t ?_)⟩
    repeat walk_at "w"
    refine yes H6 _ _ rfl (Same.refl _) ?_
    rw [strL_len]
  have S46 := s5.trans s6
  have hm : (termsM f).map (fun t => V.int (t.2.2.length : Nat)) = ((termsM f).map fun t => t.2.2.length).map fun n : Nat => V.int n := by rw [List.map_map]; rfl
  rw [hm] at hD
  refine r_cat (CP.Same.to s6 hzl) hD (by rw [List.length_map, List.length_map]; simp; omega) fun ml H7 ml0 s7 hml => ?_
  repeat walk_at "w"
  refine r_maxL hml ?_
  rw [deg_terms]
  have S47 := S46.trans s7
  have hf7 := hf4.mono S47
  have hp7 := hp4.mono S47
  have T7 := T4.ext S47
  have S7 : SBN p H H7 := S4.trans (SBN.same S47)
  have hg7 := CP.Same.to S47 hg4
  have ht7 := ht4.mono S47
  have he7 := CP.Same.to S47 he
  have pa7 : Paired (fun v b => ∃ (a : Addr) (x y : Int), v = .ref a ∧ H7 a = some (.tup [.int x, .int y, .ref b])) vs bs := pd_mono pa fun _ _ ⟨a, x, y, e, h⟩ => ⟨a, x, y, e, S47 _ _ h⟩
  have pb7 : Paired (fun b (t : Int × Int × List Str) => H7 b = some (.lst (strL t.2.2)) ∧ NewN H b) bs (termsM f) := pd_mono pb fun _ _ ⟨h, n⟩ => ⟨S47 _ _ h, n⟩
  clear hf4 hp4 T4 S4 hg4 ht4 he pa pb pt4 S46 S47 s5 s6 s7 hzl zl0 hml ml0 hm hD D0 hg5
  repeat walk_at "w"
  have letsOf : ∀ {ys : List Str}, PyProof.Rows.sortedS ys = true → ys.Nodup → (∀ x, x ∈ ys ↔ x ∈ (termsM f).flatMap (·.2.2)) → ys = letsM f := fun {ys} h1 h2 h3 => sset_of h1 h2 fun x => (h3 x).trans (flat_mem f x)
  have all : ∀ x ∈ (termsM f).flatMap (·.2.2), x ∈ l := fun x hx => by
    obtain ⟨r, hr, hw⟩ := List.mem_flatMap.mp ((flat_mem f x).mp hx)
    exact (fr.keys r hr).1 x hw
  have lf := fr.few
  have layL : ∀ w ∈ letsM f, (PyData.str w).canLay0 = true := fun w hw => by
    obtain ⟨r, hr, hw⟩ := List.mem_flatMap.mp (mem_sset.mp hw)
    exact let_lay ((fo.lets r hr).1 w hw)
  obtain ⟨dx, d, eo⟩ := hf7.at_
  refine ⟨o, dx, _, rfl, eo, by rfl, f, hf7, fo, tm.few, fun lp H8 lp0 s8 hl => ?_⟩
  clear eo
  repeat walk_at "w"
  refine r_sortSetF (.of (CP.Same.to s8 he7)) all (by omega) fun ys lq H9 up dis mem s9 lq0 hq => ?_
  rw [letsOf up dis mem] at hq
  refine strs_neX (.of (CP.Same.to s9 hl)) (.of hq) layL layL ⟨_, rfl, ?_⟩
  rw [decide_eq_true rfl]
  have S9 := s8.trans s9
  have hf9 := hf7.mono S9
  have hp9 := hp7.mono S9
  have T9 := T7.ext S9
  clear hl hq s8 s9 lq0 lp0
  repeat walk_at "w"
  obtain ⟨dx, d, eo⟩ := hf9.at_
  refine ⟨o, dx, _, rfl, eo, by rfl, f, hf9, by omega, fun r hr => by have := tm.deg r hr; omega, fun H10 s10 => ?_⟩
  clear eo
  repeat walk_at "w"
  refine (if_neg (by simp)).mpr ?_
  have S10 := S9.trans s10
  have hf10 := hf9.mono s10
  have hp10 := hp9.mono s10
  have T10 := T9.ext s10
  have Sp : SBN p H H10 := S7.trans (SBN.same S10)
  have hg10 := CP.Same.to S10 hg7
  have ht10 := ht7.mono S10
  have he10 := CP.Same.to S10 he7
  have pa10 : Paired (fun v b => ∃ (a : Addr) (x y : Int), v = .ref a ∧ H10 a = some (.tup [.int x, .int y, .ref b])) vs bs := pd_mono pa7 fun _ _ ⟨a, x, y, e, h⟩ => ⟨a, x, y, e, S10 _ _ h⟩
  have pb10 : Paired (fun b (t : Int × Int × List Str) => H10 b = some (.lst (strL t.2.2)) ∧ NewN H b) bs (termsM f) := pd_mono pb7 fun _ _ ⟨h, n⟩ => ⟨S10 _ _ h, n⟩
  clear hf7 hp7 T7 S7 hg7 ht7 he7 pa7 pb7 hf9 hp9 T9 S9 s10 S10
  repeat walk_at "w"
  refine tms_repr ht10.at (tmB_of tm) (by omega) ?_
  repeat walk_at "w"
  have gbs : g ∉ bs := fun m => by
    obtain ⟨k, hk, ek⟩ := List.mem_iff_getElem.mp m
    have gk : bs[k]? = some g := by rw [List.getElem?_eq_getElem hk, ek]
    obtain ⟨t, _, h, _⟩ := pd_get pb10 gk
    obtain ⟨v, hv, a', x', y', rfl, _⟩ := pd_get' pa10 gk
    rw [hg10] at h
    obtain rfl : vs = strL t.2.2 := by injection h with h; injection h
    obtain ⟨w, _, z⟩ := strL_get hv
    cases z
  have bad : ∀ {c' : Addr} {u : HO}, c' ∈ bs → H10 c' = some u → ∃ xs : List Str, u = .lst (strL xs) ∧ xs.length ≤ 64 := fun {c' u} m h => by
    obtain ⟨k, hk, ek⟩ := List.mem_iff_getElem.mp m
    have ck : bs[k]? = some c' := by rw [List.getElem?_eq_getElem hk, ek]
    obtain ⟨t, ht, h2, _⟩ := pd_get pb10 ck
    rw [h2] at h
    exact ⟨t.2.2, (Option.some.inj h).symm, (tmB_of tm t (List.mem_of_getElem? ht)).len⟩
  have bin : ∀ b ∈ bs, ∃ xs : List Str, H10 b = some (.lst (strL xs)) ∧ xs.length ≤ 64 := fun b m => by
    obtain ⟨k, hk, ek⟩ := List.mem_iff_getElem.mp m
    have ck : bs[k]? = some b := by rw [List.getElem?_eq_getElem hk, ek]
    obtain ⟨t, ht, h2, _⟩ := pd_get pb10 ck
    exact ⟨t.2.2, h2, (tmB_of tm t (List.mem_of_getElem? ht)).len⟩
  refine ⟨g, rfl, ⟨vs, .of hg10⟩, for_list (K := K) (a := g) (xs := vs) (fun i σ H' => (∀ b o, b ∉ bs → H10 b = some o → H' b = some o) ∧ (∀ b ∈ bs, ∃ xs, H' b = some (.lst xs) ∧ xs.length ≤ 64 + i) ∧ LamX.Tabs (tabF T.tP) H' ∧ ∃ x8 x9 x10, σ = [some (.ref p), some (.ref o), some (.ref a), some (.ref g), x4, some (.ref e), x6, some (.int (degM f : Nat)), x8, x9, x10, some (.str (tmsD (termsM f)).shown)]) ⟨fun _ _ _ z => z, fun b m => by
    obtain ⟨xs, h1, h2⟩ := bin b m
    exact ⟨_, h1, by rw [strL_len]; exact h2⟩, T10, _, _, _, rfl⟩ (fun i σ H' _ w => .of (w.1 _ _ gbs hg10)) ?_ ?_⟩
  · rintro i x σ H11 hx ⟨k11, in11, T11, x8, x9, x10, rfl⟩
    obtain ⟨b, hb, a', x', y', rfl, h1⟩ := pd_get pa10 hx
    have il : i < vs.length := (List.getElem?_eq_some_iff.mp hx).1
    have an : a' ∉ bs := fun m => by
      obtain ⟨xs, z, _⟩ := bad m h1
      cases z
    have h11 := k11 _ _ an h1
    have bm : b ∈ bs := List.mem_of_getElem? hb
    obtain ⟨xs, hb11, lx⟩ := in11 b bm
    repeat walk_at "w"
    refine ⟨.inl ⟨rfl, _, .of hb11⟩, ?_⟩
    repeat walk_at "w"
    refine r_app hb11 (by omega) fun H12 b12 h12 => ?_
    refine ⟨fun c' u cn h => b12 _ _ (fun z => cn (by rw [z]; exact bm)) (k11 _ _ cn h), fun c' m => ?_, tabs_lst T11 hb11 b12, _, _, _, rfl⟩
    by_cases z : c' = b
    · subst z
      exact ⟨_, h12, by rw [List.length_append, List.length_singleton]; omega⟩
    · obtain ⟨ys, h1, h2⟩ := in11 c' m
      exact ⟨ys, b12 _ _ z h1, by omega⟩
  rintro σ H11 ⟨k11, in11, T11, x8, x9, x10, rfl⟩
  have bnew : ∀ b ∈ bs, NewN H b := fun b m => by
    obtain ⟨k, hk, ek⟩ := List.mem_iff_getElem.mp m
    have ck : bs[k]? = some b := by rw [List.getElem?_eq_getElem hk, ek]
    obtain ⟨t, ht, _, n⟩ := pd_get pb10 ck
    exact n
  have S11 : SBN p H H11 := fun b u bp hb nt => k11 b u (fun m => (bnew b m).ne hb nt rfl) (Sp b u bp hb nt)
  have pbs : p ∉ bs := fun m => by
    obtain ⟨x, y, w, i, k, _⟩ := hp
    exact (bnew p m).ne k (fun _ z => by cases z) rfl
  have hp11 : Pu H11 p (c + 6000) := by
    obtain ⟨x, y, w, i, k, r⟩ := hp10
    exact Pu.up (c := c + 2000 * ((Int.toNat 3 : Nat) : Int)) ⟨x, y, w, i, k11 _ _ pbs k, r⟩ (by show c + 2000 * ((3 : Nat) : Int) ≤ _; omega)
  have hg11 := k11 _ _ gbs hg10
  have he11 := k11 _ _ ebs he10
  clear k11 in11 pa10 pb10 bin bad hg10 he10 hp10 hf10 T10 ht10 Sp
  repeat walk_at "w"
  refine ⟨.inl ⟨rfl, _, .of hg11⟩, ?_⟩
  repeat walk_at "w"
  refine r_app hg11 (by omega) fun H12 b12 _ => ?_
  have S12 : SBN p H H12 := fun b u bp hb nt => b12 _ _ (fun z => by rw [z, g0] at hb; cases hb) (S11 b u bp hb nt)
  have T12 := tabs_lst T11 hg11 b12
  have hp12 := hp11.sb b12 gp.symm
  have he12 := b12 _ _ eg he11
  have hf12 := S12.form hp hf
  clear S11 T11 hp11 he11 hg11 b12
  repeat walk_at "w"
  obtain ⟨dx, d, eo⟩ := hf12.at_
  refine ⟨o, dx, _, rfl, eo, by rfl, f, hf12, fo, tm.few, fun lp H13 lp0 s13 hl => ?_⟩
  clear eo
  repeat walk_at "w"
  refine ⟨.inl ⟨rfl, _, .of hl⟩, ?_⟩
  repeat walk_at "w"
  refine r_app hl (by rw [strL_len]; have := tm.few; omega) fun H14 b14 _ => ?_
  have s14 : Same H12 H14 := CP.Same.sb s13 lp0 b14
  have S14 := S12.trans (SBN.same s14)
  have hp14 := hp12.mono s14
  have T14 := T12.ext s14
  have he14 := CP.Same.to s14 he12
  have hf14 := hf12.mono s14
  clear S12 T12 hp12 he12 hf12 b14 s13 lp0 hl s14
  repeat walk_at "w"
  refine d_terms hf14 fo T14 fun g2 H15 g20 e15 T15 ht15 => ?_
  have S15 := S14.trans (SBN.ext e15)
  have hp15 := hp14.ext e15
  have he15 := e15 _ _ he14 fun _ z => by cases z
  have hf15 := hf14.ext e15
  clear S14 hp14 he14 hf14 T14 e15
  repeat walk_at "w"
  refine tms_repr ht15.at (tmB_of tm) (by omega) ?_
  repeat walk_at "w"
  rw [decide_eq_true rfl]
  repeat walk_at "w"
  obtain ⟨dx, d, eo⟩ := hf15.at_
  refine ⟨o, dx, _, rfl, eo, by rfl, f, hf15, fo, tm.few, fun lp H16 lp0 s16 hl => ?_⟩
  clear eo
  repeat walk_at "w"
  refine r_sortSetF (.of (CP.Same.to s16 he15)) all (by omega) fun ys lq H17 up dis mem s17 lq0 hq => ?_
  rw [letsOf up dis mem] at hq
  refine strs_eqX (.of (CP.Same.to s17 hl)) (.of hq) layL layL ?_
  rw [decide_eq_true rfl]
  have s1517 := s16.trans s17
  exact q _ (S15.trans (SBN.same s1517)) (hp15.mono s1517) (T15.ext s1517)

theorem ok_law_form_right (T : Txt K mg) (TB : LamX.TabB base mg T.tc T.tP) : FnG T.z.1 T.z.2 K mg base CX0 11 T.a_law_form_right T.fd_law_form_right ["_law_purse_here", "_law_form_here", "_law_names_here"] (sp_law_form_right T) :=
  Fun.okG T.F_law_form_right sc_law_form_right (len_law_form_right T) fun cdv A outer s H vs Q E gd hr h => ⟨t_law_form_right T.z.2 T, PSs.nox (pss_cons (ps_set (i := 3) sc_law_form_right.nd rfl (Or.inl rfl) (pe_meth0 (pv 1) T.c_Form T.M_Form_terms (ok_Form_terms T TB) (hr.mono (by decide)) (b_Form_terms T) .nil pass0))
      (pss_cons (ps_for PassesOwn.never rfl (pi_range1 (by rfl) T.n_range (pa_cons pe_int pa_nil)) (pg_name (i := 4) sc_law_form_right.nd rfl (Or.inl rfl)) (pss_one (ps_if (pt_not (pt_val (pe_call (ok_law_terms_right T) (hr.mono (by decide)) (by rfl) T.m__law_terms_right T.F_law_terms_right.kp (b_law_terms_right T) .nil pass0 (pa_cons (pv 3) (pa_cons (pe_call (ok_law_values T) (hr.mono (by decide)) (by rfl) T.m__law_values T.F_law_values.kp (b_law_values T) .nil pass0 (pa_cons (pv 0) (pa_cons (pv 2) pa_nil))) (pa_cons (pv 1) pa_nil)))))) (pss_one (ps_ret pe_bl)) pss_nil)))
      (pss_cons (ps_set (i := 5) sc_law_form_right.nd rfl (Or.inl rfl) (pe_lst pa_nil))
      (pss_cons (ps_for PassesOwn.never rfl (pi_list (pv 3)) (pg_name (i := 6) sc_law_form_right.nd rfl (Or.inl rfl)) (pss_cons (ps_if (PW.pt (pw_or (pt_not (pt_val (pe_callB call_isi (by rfl) T.n_isinstance (by decide +kernel) (pa_cons (pv 6) (pa_cons (pe_bltn (v := .ty "tuple") (by rfl) T.n_tuple (by decide +kernel) rfl) pa_nil))))) (pw_or (pt_cmpR op_ne (pe_callB call_lenA (by rfl) T.n_len (by decide +kernel) (pa_cons (pv 6) pa_nil)) pe_int (nomark _)) (pw_or1 (pt_not (pt_val (pe_callB call_isi (by rfl) T.n_isinstance (by decide +kernel) (pa_cons (pe_ix ix_tup (pv 6) pe_int (fun _ _ => rfl)) (pa_cons (pe_bltn (v := .ty "list") (by rfl) T.n_list (by decide +kernel) rfl) pa_nil))))))))) (pss_one (ps_ret pe_bl)) pss_nil)
      (pss_one (ps_set (i := 5) sc_law_form_right.nd rfl (Or.inl rfl) (pe_op op_cat (pv 5) (pe_ix ix_tup (pv 6) pe_int (fun _ _ => rfl)))))))
      (pss_cons (ps_set (i := 7) sc_law_form_right.nd rfl (Or.inl rfl) (pe_callB (cr_max rfl) (by rfl) T.n_max (by decide +kernel) (pa_cons (pe_op op_cat (pe_lst (pa_cons pe_int pa_nil)) (pe_lc (own := [("_law_many", 8), ("_law_bottom", 9), ("_law_some", 10)]) (g := (gTup K 3 (gCons (gName 8) (gCons (gName 9) (gCons (gName 10) gNil))))) (tt := tYes) (te := tCB (rLenA K) (tCons (tVar 10) (tNil))) rfl sc_law_form_right.nd (pi_list (pv 3)) (blkOk_by (own := [("_law_many", 8), ("_law_bottom", 9), ("_law_some", 10)]) (N := ["_law_purse_here", "_law_form_here", "_law_names_here", "_law_terms", "_law_turn", "_law_every", "_law_term", "_law_most", "_law_many", "_law_bottom", "_law_some", "_law_noted"]) (sc := defScope s_law_form_right) (by decide +kernel)) (fun _ _ _ _ _ => (pg_tup rfl (pgs_cons (pg_name (i := 8) sc_law_form_right.nd rfl (Or.inl rfl)) (pgs_cons (pg_name (i := 9) sc_law_form_right.nd rfl (Or.inl rfl)) (pgs_cons (pg_name (i := 10) sc_law_form_right.nd rfl (Or.inl rfl)) pgs_nil))))) (fun _ _ _ _ _ => pts_nil) (fun _ _ _ _ _ => (pe_callB call_lenA (by rfl) T.n_len (by decide +kernel) (pa_cons (pv 10) pa_nil))))) pa_nil)))
      (pss_cons (ps_if (PW.pt (pw_or (pt_cmpR (op_neX hr.units) (pe_meth0 (pv 1) T.c_Form T.M_Form_letters (ok_Form_letters T) (hr.mono (by decide)) (b_Form_letters T) .nil pass0) (pe_callB (cr_sortT rfl) (by rfl) T.n_sorted (by decide +kernel) (pa_cons (pe_callTy (cr_setF rfl) (by rfl) T.n_set (by decide +kernel) (pa_cons (pv 5) pa_nil)) pa_nil)) (nomark _)) (pw_or1 (pt_cmpR op_ne (pe_meth0 (pv 1) T.c_Form T.M_Form_degree (ok_Form_degree T) (hr.mono (by decide)) (b_Form_degree T) .nil pass0) (pv 7) (nomark _))))) (pss_one (ps_ret pe_bl)) pss_nil)
      (pss_cons (ps_set (i := 11) sc_law_form_right.nd rfl (Or.inl rfl) (pe_callB (call_reprD gd hr.units) (by rfl) T.n_repr (by decide +kernel) (pa_cons (pv 3) pa_nil)))
      (pss_cons (ps_for PassesOwn.never rfl (pi_list (pv 3)) (pg_tup rfl (pgs_cons (pg_name (i := 8) sc_law_form_right.nd rfl (Or.inl rfl)) (pgs_cons (pg_name (i := 9) sc_law_form_right.nd rfl (Or.inl rfl)) (pgs_cons (pg_name (i := 10) sc_law_form_right.nd rfl (Or.inl rfl)) pgs_nil)))) (pss_one (ps_expr (pe_bm PySem.F.plainAttrs_list PySem.F.slot_list_append PySem.F.type_list_append mt_append (pv 10) (pa_cons pe_str pa_nil)))))
      (pss_cons (ps_expr (pe_bm PySem.F.plainAttrs_list PySem.F.slot_list_append PySem.F.type_list_append mt_append (pv 3) (pa_cons pe_str pa_nil)))
      (pss_cons (ps_expr (pe_bm PySem.F.plainAttrs_list PySem.F.slot_list_append PySem.F.type_list_append mt_append (pe_meth0 (pv 1) T.c_Form T.M_Form_letters (ok_Form_letters T) (hr.mono (by decide)) (b_Form_letters T) .nil pass0) (pa_cons pe_str pa_nil)))
      (pss_one (ps_ret (pe_and (pe_cmpR (op_eqX hr.units) (pe_callB (call_reprD gd hr.units) (by rfl) T.n_repr (by decide +kernel) (pa_cons (pe_meth0 (pv 1) T.c_Form T.M_Form_terms (ok_Form_terms T TB) (hr.mono (by decide)) (b_Form_terms T) .nil pass0) pa_nil)) (pv 11) (nomark _)) (pe_one (pe_cmpR (op_eqX hr.units) (pe_meth0 (pv 1) T.c_Form T.M_Form_letters (ok_Form_letters T) (hr.mono (by decide)) (b_Form_letters T) .nil pass0) (pe_callB (cr_sortT rfl) (by rfl) T.n_sorted (by decide +kernel) (pa_cons (pe_callTy (cr_setF rfl) (by rfl) T.n_set (by decide +kernel) (pa_cons (pv 5) pa_nil)) pa_nil)) (nomark _)))))))))))))))), rd_law_form_right T vs H Q E h⟩
end
end CP

namespace CP
open PySem L2
section
variable {P : Program} {w : World} {K : PySem.W.Frag} {mg : Str → Option Value} {base : Heap}
def sp_law_put_right (T : Txt K mg) : Sp := fun vs H Q _ => match vs with
  | [.ref p, v, u, .ref a] => ∃ c t1 t2 l, Pu H p c ∧ c < 2 ^ 55 ∧ TrAt H v t1 ∧ TrAt H u t2 ∧ TrOk l 7 2 t1 ∧ TrOk l 7 2 t2 ∧ Tr6 t2 ∧ Lts l ∧ 1 ≤ l.length ∧ H a = some (.lst (strL l)) ∧ a ≠ p ∧ LamX.Tabs (tabF T.tP) H ∧ ∀ H', SBN p H H' → Pu H' p (c + 13000) → LamX.Tabs (tabF T.tP) H' → Q (.bl true) H'
  | _ => False
theorem kv_has {l : List Str} {kv : List (Str × Int)} (nd : l.Nodup) (kk : kv.map (·.1) = l) (kb : ∀ u ∈ kv, u.2.natAbs < 2 ^ 67) : ∀ w ∈ l, (getD kv w).isSome = true ∧ (atD kv w).natAbs < 2 ^ 67 := fun w hw => by
  have hm : w ∈ kv.map (·.1) := by rw [kk]; exact hw
  obtain ⟨u, hu, rfl⟩ := List.mem_map.mp hm
  have g := getD_mem (by rw [kk]; exact nd) hu
  unfold atD
  rw [g]
  exact ⟨rfl, kb u hu⟩
theorem atD_set (kv : List (Str × Int)) (x : Str) (G : Int) : atD (setD kv x G) = atX (atD kv) x G := funext fun w => by
  unfold atX
  unfold atD
  rw [getD_setD]
  by_cases e : w = x
  · rw [if_pos e, if_pos e.symm]
    rfl
  · rw [if_neg e, if_neg fun z => e z.symm]
theorem ne_whole {a w : Int} {H : Hp} {Q : VK} (q : Q (.bl false) H) : rNeX K (wholeV a w) (wholeV a w) H Q := by
  unfold wholeV
  split
  · exact r_neXI (by rw [decide_eq_true rfl]; exact q)
  · exact non_ne q
theorem quot_low {A U : Int} (h : A.natAbs < 2 ^ (70 * 2 ^ 2)) (u : 0 < U) : (A * 518400 / U).natAbs < 2 ^ 400 := by
  have h1 : (A * 518400 / U).natAbs ≤ (A * 518400).natAbs := Int.natAbs_ediv_le_natAbs ..
  rw [Int.natAbs_mul] at h1
  have h2 : A.natAbs * (518400 : Int).natAbs < 2 ^ (70 * 2 ^ 2) * 2 ^ 20 := Nat.mul_lt_mul'' h (by decide)
  rw [← Nat.pow_add] at h2
  exact Nat.lt_of_le_of_lt h1 (Nat.lt_of_lt_of_le h2 (pow_up (by decide)))
theorem pw720 : CPw 720 2 := ⟨by decide, by decide, by decide +kernel⟩
theorem pw720_is : (720 : Int) ^ (2 : Int).toNat = 518400 := by decide +kernel
@[reducible] def t_law_put_right_0 (w : World) (T : Txt K mg) : TS := tIfS (tTest (tOp (rNeX K) (tMeth T.a_Form "at" (sp_Form_at T) [] E0 (tVar 5) (tCons (tVar 7) (tNil))) (tCall (sp_law_whole_at T) [] E0 (tCons (tVar 1) (tCons (tVar 10) (tNil)))))) (tRet (tC (.bl false))) (tNext)
@[reducible] def t_law_put_right_1 (w : World) (T : Txt K mg) : TS := tSeq (sDPut (tVar 10) (tVar 4) (tOp oDiv (tOp oMul (tVar 8) (tOp oPow (tC (.int 720)) (tC (.int 2)))) (tVar 9))) (t_law_put_right_0 w T)
@[reducible] def t_law_put_right_2 (w : World) (T : Txt K mg) : TS := tSeq (tAsg (tCB (oDictD) (tCons (tVar 7) (tNil))) (gName 10)) (t_law_put_right_1 w T)
@[reducible] def t_law_put_right_3 (w : World) (T : Txt K mg) : TS := tSeq (tAsg (tCall (sp_law_worth T) [] E0 (tCons (tVar 2) (tCons (tVar 7) (tNil)))) (gTup K 2 (gCons (gName 8) (gCons (gName 9) gNil)))) (t_law_put_right_2 w T)
@[reducible] def t_law_put_right_4 (w : World) (T : Txt K mg) : TS := tSeq (tAsg (tCall (sp_law_values T) [] E0 (tCons (tVar 0) (tCons (tVar 3) (tNil)))) (gName 7)) (t_law_put_right_3 w T)
@[reducible] def t_law_put_right_5 (w : World) (T : Txt K mg) : TS := tRet (tOp (rEqO T.a_Form (sp_Form___eq T) E0) (tMeth T.a_Form "put" (sp_Form_put T) [] E0 (tCall (sp_law_form T) [] E0 (tCons (tVar 1) (tNil))) (tCons (tC (.str "absent")) (tCons (tCall (sp_law_form T) [] E0 (tCons (tVar 2) (tNil))) (tNil)))) (tCall (sp_law_form T) [] E0 (tCons (tVar 1) (tNil))))
@[reducible] def t_law_put_right_6 (w : World) (T : Txt K mg) : TS := tSeq (tIfS (tNot (tB (tCall (sp_law_form_right T) [] E0 (tCons (tVar 0) (tCons (tVar 5) (tCons (tVar 3) (tNil))))))) (tRet (tC (.bl false))) (tNext)) (t_law_put_right_5 w T)
@[reducible] def t_law_put_right_7 (w : World) (T : Txt K mg) : TS := tSeq (tFor (iRng1 (tCons (tC (.int 3)) (tNil))) (gName 6) (t_law_put_right_4 w T)) (t_law_put_right_6 w T)
@[reducible] def t_law_put_right_8 (w : World) (T : Txt K mg) : TS := tSeq (tAsg (tMeth T.a_Form "put" (sp_Form_put T) [] E0 (tCall (sp_law_form T) [] E0 (tCons (tVar 1) (tNil))) (tCons (tVar 4) (tCons (tOp (rBinI T.a_Form (sp_Form___mul T) E0) (tCall (sp_law_form T) [] E0 (tCons (tVar 2) (tNil))) (tOp oPow (tC (.int 720)) (tC (.int 2)))) (tNil)))) (gName 5)) (t_law_put_right_7 w T)
def t_law_put_right (w : World) (T : Txt K mg) : TS := tSeq (tAsg (tCall (sp_law_one_of T) [] E0 (tCons (tVar 0) (tCons (tVar 3) (tNil)))) (gName 4)) (t_law_put_right_8 w T)
theorem len_law_put_right (T : Txt K mg) : ∀ (vs : List V) (H : Hp) (Q : VK) (E : XK), sp_law_put_right T vs H Q E → vs.length = (["_law_purse_here", "_law_tree_here", "_law_other", "_law_names_here"] : List Str).length := by
  intro vs H Q E h
  unfold sp_law_put_right at h
  split at h
  all_goals first | rfl | exact h.elim
theorem rd_law_put_right (T : Txt K mg) (vs : List V) (H : Hp) (Q : VK) (E : XK) (h : sp_law_put_right T vs H Q E) : t_law_put_right w T { nx := fun _ H' => Q .non H', rt := Q } (start ["_law_purse_here", "_law_tree_here", "_law_other", "_law_names_here", "_law_name", "_law_built", "_law_turn", "_law_values_here", "_law_above", "_law_under", "_law_inner"] vs) H := by
  match vs, h with
  | [.ref p, v, u, .ref a], h =>
  obtain ⟨c, t1, t2, l, hp, hc, ht1, ht2, k1, k2, s2', lt, l1, ha, ap, hT, q⟩ := h
  have szl : sizeLine = 16777216 := rfl
  have g1 := tr_gd k1 (Nat.le_refl 2)
  have g2 := tr_gd k2 (Nat.le_refl 2)
  have f1 := g1.ok lt.lets (by decide) (by decide) (by decide) (by decide)
  have f2 := g2.ok lt.lets (by decide) (by decide) (by decide) (by decide)
  have l3 := lt.three
  unfold t_law_put_right
  walk_at "st"
  repeat walk_at "w"
  refine ⟨c, _, hp, by omega, ha, ap, by rw [strL_len]; omega, by rw [strL_len]; omega, fun nv H1 hnv b1 hp1 => ?_⟩
  obtain ⟨x, hx, rfl⟩ := List.mem_map.mp hnv
  have S1 : SBN p H H1 := SBN.sb b1
  have ht11 := ht1.stay (S1.stay hp)
  have ht21 := ht2.stay (S1.stay hp)
  have T1 := tabs_pu hT hp b1
  have ha1 := S1.lst ap ha
  repeat walk_at "w"
  refine ⟨t1, l, ht11, (k1.up (Nat.le_refl _)).1, by decide, lt.lets, fun o1 H2 o10 s2 h1 => ?_⟩
  have ht22 := ht21.stay (stay_same s2)
  repeat walk_at "w"
  obtain ⟨dx, d, eo⟩ := h1.at_
  refine ⟨o1, dx, _, rfl, eo, by rfl, ?_⟩
  clear eo
  repeat walk_at "w"
  refine ⟨t2, l, ht22, (k2.up (Nat.le_refl _)).1, by decide, lt.lets, fun o2 H3 o20 s3 h2 => ?_⟩
  repeat walk_at "w"
  refine r_I pw720 ?_
  rw [pw720_is]
  refine d_mulI h2 f2 ((Gf.num (L := l) (b := 20) 518400 (by decide)).ok lt.lets (by decide) (by decide) (by decide) (by decide)) fun o3 H4 o30 s4 h3 => ?_
  have h3 : FormZ T.z T.a_Form H4 o3 (putG t2) := h3
  obtain ⟨pok, pfr⟩ := put_all (x := x) lt k1 k2 s2'
  repeat walk_at "w"
  refine d_put (h1.mono (s3.trans s4)) h3 (lt.lets x hx) pok fun bu H5 s5 hbu => ?_
  have S15 := s2.trans (s3.trans (s4.trans s5))
  have S5 := S1.trans (SBN.same S15)
  have hp5 := hp1.mono S15
  have T5 := T1.ext S15
  have ha5 := CP.Same.to S15 ha1
  have ht15 := ht11.stay (stay_same S15)
  have ht25 := ht21.stay (stay_same S15)
  clear h1 h2 h3 s2 s3 s4 s5 S15 ht11 ht21 ht22 T1 ha1 hp1 S1 b1 o10 o20 o30 dx d
  repeat walk_at "w"
  refine for_range (fun i σ H' => SB p H5 H' ∧ Pu H' p (c + 60 + 2000 * i) ∧ LamX.Tabs (tabF T.tP) H' ∧ ∃ x6 x7 x8 x9 x10, σ = [some (.ref p), some v, some u, some (.ref a), some (.str x), some (.ref bu), x6, x7, x8, x9, x10]) ⟨fun _ _ _ z => z, hp5.up (by omega), T5, _, _, _, _, _, rfl⟩ ?_ ?_
  · rintro i σ H6 hi ⟨b6, hp6, T6, x6, x7, x8, x9, x10, rfl⟩
    have i3 : i < 3 := hi
    have ha6 := b6 _ _ ap ha5
    repeat walk_at "w"
    refine ⟨_, _, hp6, by omega, ha6, ap, by omega, lt.nd, fun dd kv H7 kk kb d0 b7 hd hp7 => ?_⟩
    have B7 : SB p H5 H7 := SB.trans' b6 b7
    have R7 : SBN p H5 H7 := SBN.sb B7
    have ht27 := ht25.stay (R7.stay hp5)
    have ht17 := ht15.stay (R7.stay hp5)
    have hb7 := R7.form hp5 hbu
    have T7 := tabs_pu T6 hp6 b7
    have vo := pfr.vals kk kb
    repeat walk_at "w"
    have has := kv_has lt.nd kk kb
    have k230 := (k2.up (show 7 ≤ 30 by decide)).2
    have k130 := (k1.up (show 7 ≤ 30 by decide)).2
    refine ⟨t2, l, kv, ht27, k230, by decide, hd, fun w hw => ⟨(has w hw).1, Nat.lt_trans (has w hw).2 (Nat.pow_lt_pow_right (by decide) (by decide))⟩, fun tp H8 tp0 s8 htp => ?_⟩
    obtain ⟨w1, w2, w3⟩ := k2.low (v := atD kv) (by decide) fun w hw => Nat.lt_trans (has w hw).2 (by decide)
    have gw := putG_worth (v := atD kv) k2 s2'
    have pv := put_val (x := x) (v := atD kv) lt k1 k2 s2'
    have hd8 := CP.Same.to s8 hd
    generalize hA : (worthM (atD kv) t2).1 = A at *
    generalize hU : (worthM (atD kv) t2).2 = U at *
    repeat walk_at "w"
    refine r_dictD hd8 fun inn H9 inn0 s9 hin => ?_
    have hd9 := CP.Same.to s9 hd8
    repeat walk_at "w"
    refine r_I pw720 ?_
    rw [pw720_is]
    refine r_I (wide_mul (a := 280) (b := 20) w1 (by decide) (by decide) (by decide) (by decide)) ?_
    repeat walk_at "w"
    have kl : kv.length = l.length := by rw [← kk, List.length_map]
    have ndk : (kv.map (·.1)).Nodup := by rw [kk]; exact lt.nd
    refine r_dputS hin (by unfold dV; rw [List.length_map]; omega) fun H10 b10 hin10 => ?_
    rw [dV_put kv x _ ndk] at hin10
    have s910 : Same H8 H10 := CP.Same.sb s9 inn0 b10
    have S710 := s8.trans s910
    have hb10 := hb7.mono S710
    have hd10 := CP.Same.to S710 hd
    have ht110 := ht17.stay (stay_same S710)
    have hp10 := hp7.mono S710
    have T10 := T7.ext S710
    have B10 := SB.trans' B7 (Same.sb' S710)
    clear s9 s910 b10 hin hd9 hd8 s8 inn0 tp0 htp ht27 hb7 R7 b6 b7 hp6 T6
    repeat walk_at "w"
    obtain ⟨dx, d, eo⟩ := hb10.at_
    refine ⟨bu, dx, _, rfl, eo, by rfl, ?_⟩
    clear eo
    repeat walk_at "w"
    refine ⟨_, kv, hb10, pfr.tm.ok, pfr.tm.few, hd10, vo.lets, vo.nd, vo.few, vo.val, vo.prod, fun H11 s11 => ?_⟩
    have ea : atF (atD kv) (putM (formM t1) x (putG t2)) = wholeV (worthM (atX (atD kv) x (A * 518400 / U)) t1).1 (worthM (atX (atD kv) x (A * 518400 / U)) t1).2 := by
      rw [← whole_same pfr.tm.ok.pos.1 pv.1 pv.2]
      rfl
    rw [ea]
    repeat walk_at "w"
    refine ⟨t1, l, setD kv x (A * 518400 / U), ht110.stay (stay_same s11), k130, CP.Same.to s11 hin10, fun w hw => ?_, fun H12 s12 => ?_⟩
    · rw [getD_setD, atD_set]
      unfold atX
      by_cases e : w = x
      · rw [if_pos e, if_pos e.symm]
        exact ⟨rfl, quot_low w1 w2⟩
      · rw [if_neg e, if_neg fun z => e z.symm]
        exact ⟨(has w hw).1, Nat.lt_trans (has w hw).2 (Nat.pow_lt_pow_right (by decide) (by decide))⟩
    rw [atD_set]
    refine ne_whole ⟨_, rfl, ?_⟩
    have S12 := s11.trans s12
    repeat walk_at "w"
    exact ⟨SB.trans' B10 (Same.sb' S12), (hp10.mono S12).up (by omega), T10.ext S12, _, _, _, _, _, rfl⟩
  rintro σ H6 ⟨b6, hp6, T6, x6, x7, x8, x9, x10, rfl⟩
  have R6 : SBN p H5 H6 := SBN.sb b6
  have S6 := S5.trans R6
  have hb6 := R6.form hp5 hbu
  have ha6 := b6 _ _ ap ha5
  have hp6 : Pu H6 p (c + 6060) := hp6.up (by show c + 60 + 2000 * ((3 : Nat) : Int) ≤ _; omega)
  clear R6 b6 T5 hp5 hbu ha5
  repeat walk_at "w"
  refine ⟨_, _, l, hp6, by omega, hb6, pfr, ha6, ap, T6, fun H7 s7 hp7 T7 => ?_⟩
  have S7 := S6.trans s7
  have ht17 := ht1.stay (S7.stay hp)
  have ht27 := ht2.stay (S7.stay hp)
  clear S6 s7 hp6 T6 hb6 ha6
  obtain ⟨nok, neq⟩ := put_none lt k1 k2
  repeat walk_at "w"
  refine ⟨t1, l, ht17, (k1.up (Nat.le_refl _)).1, by decide, lt.lets, fun o1 H8 o10 s8 h1 => ?_⟩
  have ht28 := ht27.stay (stay_same s8)
  repeat walk_at "w"
  obtain ⟨dx, d, eo⟩ := h1.at_
  refine ⟨o1, dx, _, rfl, eo, by rfl, ?_⟩
  clear eo
  repeat walk_at "w"
  refine ⟨t2, l, ht28, (k2.up (Nat.le_refl _)).1, by decide, lt.lets, fun o2 H9 o20 s9 h2 => ?_⟩
  repeat walk_at "w"
  refine d_put (h1.mono s9) h2 (by decide +kernel) nok fun o3 H10 s10 h3 => ?_
  have S710 := s8.trans (s9.trans s10)
  have ht110 := ht17.stay (stay_same S710)
  repeat walk_at "w"
  refine ⟨t1, l, ht110, (k1.up (Nat.le_refl _)).1, by decide, lt.lets, fun o4 H11 o40 s11 h4 => ?_⟩
  refine d_eq (h3.mono s11) h4 ?_
  rw [neq]
  have S711 := S710.trans s11
  exact q _ (S7.trans (SBN.same S711)) ((hp7.mono S711).up (by omega)) (T7.ext S711)

theorem ok_law_put_right (T : Txt K mg) (TB : LamX.TabB base mg T.tc T.tP) : FnG T.z.1 T.z.2 K mg base CX0 13 T.a_law_put_right T.fd_law_put_right ["_law_purse_here", "_law_tree_here", "_law_other", "_law_names_here"] (sp_law_put_right T) :=
  Fun.okG T.F_law_put_right sc_law_put_right (len_law_put_right T) fun cdv A outer s H vs Q E gd hr h => ⟨t_law_put_right T.z.2 T, PSs.nox (pss_cons (ps_set (i := 4) sc_law_put_right.nd rfl (Or.inl rfl) (pe_call (ok_law_one_of T) (hr.mono (by decide)) (by rfl) T.m__law_one_of T.F_law_one_of.kp (b_law_one_of T) .nil pass0 (pa_cons (pv 0) (pa_cons (pv 3) pa_nil))))
      (pss_cons (ps_set (i := 5) sc_law_put_right.nd rfl (Or.inl rfl) (pe_meth (pe_call (ok_law_form T) (hr.mono (by decide)) (by rfl) T.m__law_form T.F_law_form.kp (b_law_form T) .nil pass0 (pa_cons (pv 1) pa_nil)) T.c_Form T.M_Form_put (ok_Form_put T) (hr.mono (by decide)) (b_Form_put T) .nil pass0 (pa_cons (pv 4) (pa_cons (pe_op (op_binI (op := .Mult) rfl rfl T.S_Form T.M_Form___mul T.Z_Form___mul (ok_Form___mul T) (hr.mono (by decide)) (b_Form___mul T) pass0) (pe_call (ok_law_form T) (hr.mono (by decide)) (by rfl) T.m__law_form T.F_law_form.kp (b_law_form T) .nil pass0 (pa_cons (pv 2) pa_nil)) (pe_op op_powW pe_int pe_int)) pa_nil))))
      (pss_cons (ps_for PassesOwn.never rfl (pi_range1 (by rfl) T.n_range (pa_cons pe_int pa_nil)) (pg_name (i := 6) sc_law_put_right.nd rfl (Or.inl rfl)) (pss_cons (ps_set (i := 7) sc_law_put_right.nd rfl (Or.inl rfl) (pe_call (ok_law_values T) (hr.mono (by decide)) (by rfl) T.m__law_values T.F_law_values.kp (b_law_values T) .nil pass0 (pa_cons (pv 0) (pa_cons (pv 3) pa_nil))))
      (pss_cons (ps_asg (pe_call (ok_law_worth T) (hr.mono (by decide)) (by rfl) T.m__law_worth T.F_law_worth.kp (b_law_worth T) .nil pass0 (pa_cons (pv 2) (pa_cons (pv 7) pa_nil))) (pg_tup rfl (pgs_cons (pg_name (i := 8) sc_law_put_right.nd rfl (Or.inl rfl)) (pgs_cons (pg_name (i := 9) sc_law_put_right.nd rfl (Or.inl rfl)) pgs_nil))))
      (pss_cons (ps_set (i := 10) sc_law_put_right.nd rfl (Or.inl rfl) (pe_callTy call_dictD (by rfl) T.n_dict (by decide +kernel) (pa_cons (pv 7) pa_nil)))
      (pss_cons (ps_dput (hu_of hr) (pv 10) (pv 4) (pe_op op_fdivW (pe_op op_mulW (pv 8) (pe_op op_powW pe_int pe_int)) (pv 9)) rfl)
      (pss_one (ps_if (pt_cmpR (op_neX hr.units) (pe_meth (pv 5) T.c_Form T.M_Form_at (ok_Form_at T) (hr.mono (by decide)) (b_Form_at T) .nil pass0 (pa_cons (pv 7) pa_nil)) (pe_call (ok_law_whole_at T) (hr.mono (by decide)) (by rfl) T.m__law_whole_at T.F_law_whole_at.kp (b_law_whole_at T) .nil pass0 (pa_cons (pv 1) (pa_cons (pv 10) pa_nil))) (nomark _)) (pss_one (ps_ret pe_bl)) pss_nil)))))))
      (pss_cons (ps_if (pt_not (pt_val (pe_callG (ok_law_form_right T TB) gd (hr.mono (by decide)) (by rfl) T.m__law_form_right T.F_law_form_right.kp (b_law_form_right T) .nil pass0 (pa_cons (pv 0) (pa_cons (pv 5) (pa_cons (pv 3) pa_nil)))))) (pss_one (ps_ret pe_bl)) pss_nil)
      (pss_one (ps_ret (pe_cmpR (op_eqO T.O_Form (ok_Form___eq T) (hr.mono (by decide)) (b_Form___eq T) pass0) (pe_meth (pe_call (ok_law_form T) (hr.mono (by decide)) (by rfl) T.m__law_form T.F_law_form.kp (b_law_form T) .nil pass0 (pa_cons (pv 1) pa_nil)) T.c_Form T.M_Form_put (ok_Form_put T) (hr.mono (by decide)) (b_Form_put T) .nil pass0 (pa_cons pe_str (pa_cons (pe_call (ok_law_form T) (hr.mono (by decide)) (by rfl) T.m__law_form T.F_law_form.kp (b_law_form T) .nil pass0 (pa_cons (pv 2) pa_nil)) pa_nil))) (pe_call (ok_law_form T) (hr.mono (by decide)) (by rfl) T.m__law_form T.F_law_form.kp (b_law_form T) .nil pass0 (pa_cons (pv 1) pa_nil)) (nomark _)))))))), rd_law_put_right T vs H Q E h⟩
end
end CP

namespace CP
open PySem L2
section
variable {P : Program} {w : World} {K : PySem.W.Frag} {mg : Str → Option Value} {base : Heap}
def sp_law_wholes_right (T : Txt K mg) : Sp := fun vs H Q _ => match vs with
  | [.ref o] => ∃ f l, FormZ T.z T.a_Form H o f ∧ Gf l 4 4 28 16 f ∧ l.Nodup ∧ (∀ w ∈ l, letB w = true) ∧ LamX.Tabs (tabF T.tP) H ∧ ∀ H', LamX.ExtN H H' → LamX.Tabs (tabF T.tP) H' → Q (.bl true) H'
  | _ => False
@[reducible] def t_law_wholes_right_0 (w : World) (T : Txt K mg) : TS := tRet (tAndV (tOp (rEqO T.a_Form (sp_Form___eq T) E0) (tMeth T.a_Form "over" (sp_Form_over T) [] E0 (tOp (rBinI T.a_Form (sp_Form___mul T) E0) (tVar 0) (tC (.int 6))) (tCons (tC (.int 6)) (tNil))) (tVar 0)) (tAndV (tOp (rEqO T.a_Form (sp_Form___eq T) E0) (tVar 1) (tVar 0)) (tOp (rEqX K) (tMeth T.a_Form "terms" (sp_Form_terms T) [] E0 (tMeth T.a_Form "over" (sp_Form_over T) [] E0 (tOp (rBinO T.a_Form (sp_Form___add T) E0) (tVar 0) (tVar 0)) (tCons (tC (.int 2)) (tNil))) tNil) (tMeth T.a_Form "terms" (sp_Form_terms T) [] E0 (tVar 0) tNil))))
@[reducible] def t_law_wholes_right_1 (w : World) (T : Txt K mg) : TS := tSeq (tAug 1 (tC (.int 1)) (rBinI T.a_Form (sp_Form___sub T) E0)) (t_law_wholes_right_0 w T)
@[reducible] def t_law_wholes_right_2 (w : World) (T : Txt K mg) : TS := tSeq (tIfS (tOr (tTest (tOp (rNeX K) (tMeth T.a_Form "terms" (sp_Form_terms T) [] E0 (tVar 0) tNil) (tVar 2))) (tTest (tOp (rEqX K) (tMeth T.a_Form "terms" (sp_Form_terms T) [] E0 (tVar 1) tNil) (tVar 2)))) (tRet (tC (.bl false))) (tNext)) (t_law_wholes_right_1 w T)
@[reducible] def t_law_wholes_right_3 (w : World) (T : Txt K mg) : TS := tSeq (tAug 1 (tC (.int 1)) (rBinI T.a_Form (sp_Form___add T) E0)) (t_law_wholes_right_2 w T)
@[reducible] def t_law_wholes_right_4 (w : World) (T : Txt K mg) : TS := tSeq (tPar 1 2 (tCons (tVar 0) (tCons (tMeth T.a_Form "terms" (sp_Form_terms T) [] E0 (tVar 0) tNil) (tNil)))) (t_law_wholes_right_3 w T)
@[reducible] def t_law_wholes_right_5 (w : World) (T : Txt K mg) : TS := tSeq (tIfS (tOr (tTest (tOp (rNeX K) (tMeth T.a_Form "terms" (sp_Form_terms T) [] E0 (tOp (rBinI T.a_Form (sp_Form___add T) E0) (tOp (rBinI T.a_Form (sp_Form___add T) E0) (tVar 0) (tC (.int 5))) (tUn oNeg (tC (.int 5)))) tNil) (tMeth T.a_Form "terms" (sp_Form_terms T) [] E0 (tVar 0) tNil))) (tOr (tTest (tOp (rNeX K) (tMeth T.a_Form "terms" (sp_Form_terms T) [] E0 (tOp (rBinI T.a_Form (sp_Form___mul T) E0) (tVar 0) (tC (.int 0))) tNil) (tLst (tNil)))) (tTest (tOp (rNeO T.a_Form (sp_Form___eq T) E0) (tOp (rBinI T.a_Form (sp_Form___mul T) E0) (tMeth T.a_Form "over" (sp_Form_over T) [] E0 (tVar 0) (tCons (tC (.int 6)) (tNil))) (tC (.int 6))) (tVar 0))))) (tRet (tC (.bl false))) (tNext)) (t_law_wholes_right_4 w T)
def t_law_wholes_right (w : World) (T : Txt K mg) : TS := tSeq (tIfS (tOr (tTest (tOp (rNeO T.a_Form (sp_Form___eq T) E0) (tOp (rBinI T.a_Form (sp_Form___add T) E0) (tVar 0) (tC (.int 7))) (tOp (rBinO T.a_Form (sp_Form___add T) E0) (tVar 0) (tCall (sp_number T) [] E0 (tCons (tC (.int 7)) (tNil)))))) (tOr (tTest (tOp (rNeO T.a_Form (sp_Form___eq T) E0) (tOp (rBinI T.a_Form (sp_Form___mul T) E0) (tVar 0) (tC (.int 6))) (tOp (rBinO T.a_Form (sp_Form___mul T) E0) (tVar 0) (tCall (sp_number T) [] E0 (tCons (tC (.int 6)) (tNil)))))) (tTest (tOp (rNeO T.a_Form (sp_Form___eq T) E0) (tOp (rBinI T.a_Form (sp_Form___sub T) E0) (tVar 0) (tC (.int 4))) (tOp (rBinO T.a_Form (sp_Form___sub T) E0) (tVar 0) (tCall (sp_number T) [] E0 (tCons (tC (.int 4)) (tNil)))))))) (tRet (tC (.bl false))) (tNext)) (t_law_wholes_right_5 w T)
theorem len_law_wholes_right (T : Txt K mg) : ∀ (vs : List V) (H : Hp) (Q : VK) (E : XK), sp_law_wholes_right T vs H Q E → vs.length = (["_law_form_here"] : List Str).length := by
  intro vs H Q E h
  unfold sp_law_wholes_right at h
  split at h
  all_goals first | rfl | exact h.elim
theorem rd_law_wholes_right (T : Txt K mg) (vs : List V) (H : Hp) (Q : VK) (E : XK) (h : sp_law_wholes_right T vs H Q E) : t_law_wholes_right w T { nx := fun _ H' => Q .non H', rt := Q } (start ["_law_form_here", "_law_total", "_law_before"] vs) H := by
  match vs, h with
  | [.ref o], h =>
  obtain ⟨f, l, hf, gf, nd, lets, hT, q⟩ := h
  have szl : sizeLine = 16777216 := rfl
  have fo := gf.ok lets (by decide) (by decide) (by decide) (by decide)
  have nk : ∀ n : Int, n.natAbs < 2 ^ 10 → FOk (numF n) := fun n h => (Gf.num (L := l) n h).ok lets (by decide) (by decide) (by decide) (by decide)
  unfold t_law_wholes_right
  walk_at "st"
  repeat walk_at "w"
  have n7 : Gf l 1 0 10 1 (numF 7) := Gf.num 7 (by decide)
  have n6 : Gf l 1 0 10 1 (numF 6) := Gf.num 6 (by decide)
  have n5 : Gf l 1 0 10 1 (numF 5) := Gf.num 5 (by decide)
  have m5 : Gf l 1 0 10 1 (numF (-5)) := Gf.num (-5) (by decide)
  have n4 : Gf l 1 0 10 1 (numF 4) := Gf.num 4 (by decide)
  have n1 : Gf l 1 0 10 1 (numF 1) := Gf.num 1 (by decide)
  have n0 : Gf l 1 0 10 1 (numF 0) := Gf.num 0 (by decide)
  have g7 := gf.add n7 (d := 4) (b := 60) (by decide) (by decide) (by decide) (by decide)
  have g4 := gf.add n4.neg (d := 4) (b := 60) (by decide) (by decide) (by decide) (by decide)
  have g6 := gf.mul n6
  have g5 := gf.add n5 (d := 4) (b := 60) (by decide) (by decide) (by decide) (by decide)
  have g55 := g5.add m5 (d := 4) (b := 80) (by decide) (by decide) (by decide) (by decide)
  have g0 := gf.mul n0
  have go6 := gf.over (n := 6) (k := 3) (by decide) (by decide)
  have g66 := go6.mul n6
  have g1 := gf.add n1 (d := 4) (b := 60) (by decide) (by decide) (by decide) (by decide)
  have g11 := g1.add n1.neg (d := 4) (b := 80) (by decide) (by decide) (by decide) (by decide)
  have g2 := gf.add gf (d := 4) (b := 60) (by decide) (by decide) (by decide) (by decide)
  have go2 := g2.over (n := 2) (k := 2) (by decide) (by decide)
  have go66 := g6.over (n := 6) (k := 3) (by decide) (by decide)
  have ok : ∀ {t d b e : Nat} {g : Fm}, Gf l t d b e g → t ≤ 1000 ∧ d ≤ 1000 ∧ b ≤ 200 ∧ e ≤ 200 → FOk g := fun h z => h.ok lets z.1 z.2.1 z.2.2.1 z.2.2.2
  refine d_addI hf fo (nk 7 (by decide)) fun o1 H1 o10 s1 h1 => ?_
  have hf1 := hf.mono s1
  repeat walk_at "w"
  refine fun o2 H2 o20 s2 h2 => ?_
  repeat walk_at "w"
  refine d_addO (hf1.mono s2) h2 fo (nk 7 (by decide)) fun o3 H3 o30 s3 h3 => ?_
  have h13 := h1.mono (s2.trans s3)
  have hf3 := hf1.mono (s2.trans s3)
  have S3 := s1.trans (s2.trans s3)
  refine d_ne h13 h3 ⟨_, rfl, ?_⟩
  rw [show eqM (addM f (numF 7)) (addM f (madeM [([], 7)] 1)) = true from eq_self g7.fx]
  clear h1 h2 h3 h13 hf1 s1 s2 s3 o10 o20 o30
  repeat walk_at "w"
  refine d_mulI hf3 fo (nk 6 (by decide)) fun o1 H4 o10 s4 h1 => ?_
  repeat walk_at "w"
  refine fun o2 H5 o20 s5 h2 => ?_
  repeat walk_at "w"
  refine d_mulO (hf3.mono (s4.trans s5)) h2 fo (nk 6 (by decide)) fun o3 H6 o30 s6 h3 => ?_
  have h13 := h1.mono (s5.trans s6)
  have hf6 := hf3.mono (s4.trans (s5.trans s6))
  have S6 := S3.trans (s4.trans (s5.trans s6))
  refine d_ne h13 h3 ⟨_, rfl, ?_⟩
  rw [show eqM (mulM f (numF 6)) (mulM f (madeM [([], 6)] 1)) = true from eq_self g6.fx]
  clear h1 h2 h3 h13 hf3 s4 s5 s6 o10 o20 o30 S3
  repeat walk_at "w"
  refine d_subI hf6 fo (nk 4 (by decide)) fun o1 H7 o10 s7 h1 => ?_
  repeat walk_at "w"
  refine fun o2 H8 o20 s8 h2 => ?_
  repeat walk_at "w"
  refine d_subO (hf6.mono (s7.trans s8)) h2 fo (nk 4 (by decide)) fun o3 H9 o30 s9 h3 => ?_
  have h13 := h1.mono (s8.trans s9)
  have hf9 := hf6.mono (s7.trans (s8.trans s9))
  have S9 := S6.trans (s7.trans (s8.trans s9))
  refine d_ne h13 h3 ⟨_, rfl, ?_⟩
  rw [show eqM (addM f (negM (numF 4))) (addM f (negM (madeM [([], 4)] 1))) = true from eq_self g4.fx]
  clear h1 h2 h3 h13 hf6 s7 s8 s9 o10 o20 o30 S6
  have hT9 := hT.ext S9
  have E9 := LamX.ExtN.of S9
  clear hf hT S9
  repeat walk_at "w"
  refine d_addI hf9 fo (nk 5 (by decide)) fun o1 H10 o10 s10 h1 => ?_
  repeat walk_at "w"
  refine ⟨5, rfl, ?_⟩
  have f5 := ok g5 (by decide)
  have f55 := ok g55 (by decide)
  refine d_addI h1 f5 (nk (-5) (by decide)) fun o2 H11 o20 s11 h2 => ?_
  have h2 : FormZ T.z T.a_Form H11 o2 (addM (addM f (numF 5)) (numF (-5))) := h2
  have S11 := s10.trans s11
  have hf11 := hf9.mono S11
  refine d_terms h2 f55 (hT9.ext S11) fun t1 H12 t10 e12 T12 ht1 => ?_
  have hf12 := hf11.ext e12
  have E12 := E9.trans ((LamX.ExtN.of S11).trans e12)
  clear h1 h2 s10 s11 o10 o20 S11 hf9 hf11 hT9 E9
  repeat walk_at "w"
  refine d_terms hf12 fo T12 fun t2 H13 t20 e13 T13 ht2 => ?_
  refine tms_neX (ht1.at.ext e13) ht2.at (tms_lets f55) (tms_lets fo) ⟨_, rfl, ?_⟩
  rw [terms_eq g55.nd gf.nd g55.q.no0 gf.q.no0 (wh_four nd gf), decide_eq_true rfl]
  have hf13 := hf12.ext e13
  have E13 := E12.trans e13
  clear ht1 ht2 t10 t20 e12 e13 T12 hf12 E12
  repeat walk_at "w"
  refine d_mulI hf13 fo (nk 0 (by decide)) fun o1 H14 o10 s14 h1 => ?_
  have f0 := ok g0 (by decide)
  refine d_terms h1 f0 (T13.ext s14) fun t1 H15 t10 e15 T15 ht1 => ?_
  have e1315 := (LamX.ExtN.of s14).trans e15
  have hf15 := hf13.ext e1315
  have E15 := E13.trans e1315
  clear e1315
  repeat walk_at "w"
  rename_i t2 H16 t20 s16 ht2
  rw [wh_zero] at ht1
  have hx : TermsAt H16 t2 [] := ⟨[], ht2, .nil⟩
  refine tms_neX (ht1.at.ext (LamX.ExtN.of s16)) hx (by simp) (by simp) ⟨_, rfl, ?_⟩
  rw [decide_eq_true rfl]
  have hf16 := hf15.mono s16
  have T16 := T15.ext s16
  have E16 := E15.trans (LamX.ExtN.of s16)
  clear ht1 hx ht2 t10 t20 s14 e15 s16 h1 o10 hf13 hf15 T13 T15 E13 E15
  repeat walk_at "w"
  refine d_over hf16 fo (by decide) (by decide) fun o1 H17 o10 s17 h1 => ?_
  repeat walk_at "w"
  refine d_mulI h1 (ok go6 (by decide)) (nk 6 (by decide)) fun o2 H18 o20 s18 h2 => ?_
  have S18 := s17.trans s18
  repeat walk_at "w"
  refine d_ne h2 (hf16.mono S18) ⟨_, rfl, ?_⟩
  rw [(wh_six nd gf).1]
  have hf18 := hf16.mono S18
  have T18 := T16.ext S18
  have E18 := E16.trans (LamX.ExtN.of S18)
  clear h1 h2 o10 o20 s17 s18 S18 hf16 T16 E16
  repeat walk_at "w"
  refine d_terms hf18 fo T18 fun b0 H19 b00 e19 T19 hb0 => ?_
  have hf19 := hf18.ext e19
  have E19 := E18.trans e19
  have hb0 := hb0.at
  clear hf18 T18 E18 e19
  repeat walk_at "w"
  refine r_aug rfl ?_
  repeat walk_at "w"
  refine d_addI hf19 fo (nk 1 (by decide)) fun tt H20 tt0 s20 htt => ?_
  have hf20 := hf19.mono s20
  have T20 := T19.ext s20
  have E20 := E19.trans (LamX.ExtN.of s20)
  have hb20 := hb0.ext (LamX.ExtN.of s20)
  clear hf19 T19 E19 s20 hb0
  repeat walk_at "w"
  refine d_terms hf20 fo T20 fun t1 H21 t10 e21 T21 ht1 => ?_
  have hb21 := hb20.ext e21
  repeat walk_at "w"
  refine tms_neX ht1.at hb21 (tms_lets fo) (tms_lets fo) ⟨_, rfl, ?_⟩
  rw [decide_eq_true rfl]
  have hf21 := hf20.ext e21
  have htt21 := htt.ext e21
  have E21 := E20.trans e21
  clear hf20 T20 E20 hb20 htt e21 t10 ht1
  have f1 := ok g1 (by decide)
  repeat walk_at "w"
  refine d_terms htt21 f1 T21 fun t1 H22 t10 e22 T22 ht1 => ?_
  have hb22 := hb21.ext e22
  repeat walk_at "w"
  refine tms_eqX ht1.at hb22 (tms_lets f1) (tms_lets fo) ⟨_, rfl, ?_⟩
  rw [decide_eq_false (wh_more gf fo f1)]
  have hf22 := hf21.ext e22
  have htt22 := htt21.ext e22
  have E22 := E21.trans e22
  clear hf21 htt21 T21 E21 hb21 hb22 e22 t10 ht1
  repeat walk_at "w"
  refine r_aug rfl ?_
  repeat walk_at "w"
  refine d_subI htt22 f1 (nk 1 (by decide)) fun t3 H23 t30 s23 ht3 => ?_
  have hf23 := hf22.mono s23
  have T23 := T22.ext s23
  have E23 := E22.trans (LamX.ExtN.of s23)
  clear hf22 T22 E22 s23 t30
  repeat walk_at "w"
  refine d_mulI hf23 fo (nk 6 (by decide)) fun o1 H24 o10 s24 h1 => ?_
  repeat walk_at "w"
  refine d_over h1 (ok g6 (by decide)) (by decide) (by decide) fun o2 H25 o20 s25 h2 => ?_
  have S25 := s24.trans s25
  have hf25 := hf23.mono S25
  have T25 := T23.ext S25
  have E25 := E23.trans (LamX.ExtN.of S25)
  have ht25 := ht3.mono S25
  repeat walk_at "w"
  refine d_eq h2 hf25 ⟨_, rfl, ?_⟩
  rw [(wh_six nd gf).2]
  clear h1 h2 s24 s25 S25 hf23 T23 E23 ht3 o10 o20
  repeat walk_at "w"
  refine d_eq ht25 hf25 ⟨_, rfl, ?_⟩
  rw [wh_back nd gf]
  repeat walk_at "w"
  refine d_addO hf25 hf25 fo fo fun o1 H26 o10 s26 h1 => ?_
  repeat walk_at "w"
  refine d_over h1 (ok g2 (by decide)) (by decide) (by decide) fun o2 H27 o20 s27 h2 => ?_
  have S27 := s26.trans s27
  have f2 := ok go2 (by decide)
  repeat walk_at "w"
  refine d_terms h2 f2 (T25.ext S27) fun t1 H28 t10 e28 T28 ht1 => ?_
  repeat walk_at "w"
  refine d_terms ((hf25.mono S27).ext e28) fo T28 fun t2 H29 t20 e29 T29 ht2 => ?_
  refine tms_eqX (ht1.at.ext e29) ht2.at (tms_lets f2) (tms_lets fo) ?_
  rw [terms_eq go2.nd gf.nd go2.q.no0 gf.q.no0 (wh_two nd gf), decide_eq_true rfl]
  exact q _ (E25.trans ((LamX.ExtN.of S27).trans (e28.trans e29))) T29

theorem ok_law_wholes_right (T : Txt K mg) (TB : LamX.TabB base mg T.tc T.tP) : FnOk T.z.1 T.z.2 K mg base CX0 11 T.a_law_wholes_right T.fd_law_wholes_right ["_law_form_here"] (sp_law_wholes_right T) :=
  T.F_law_wholes_right.ok sc_law_wholes_right (len_law_wholes_right T) fun cdv A outer s H vs Q E hr h => ⟨t_law_wholes_right T.z.2 T, (pss_cons (ps_if (PW.pt (pw_or (pt_cmpR (op_neO T.O_Form (ok_Form___eq T) (hr.mono (by decide)) (b_Form___eq T) pass0) (pe_op (op_binI (op := .Add) rfl rfl T.S_Form T.M_Form___add T.Z_Form___add (ok_Form___add T) (hr.mono (by decide)) (b_Form___add T) pass0) (pv 0) pe_int) (pe_op (op_binO (op := .Add) rfl T.S_Form T.M_Form___add (ok_Form___add T) (hr.mono (by decide)) (b_Form___add T) pass0) (pv 0) (pe_call (ok_number T) (hr.mono (by decide)) (by rfl) T.m_number T.F_number.kp (b_number T) .nil pass0 (pa_cons pe_int pa_nil))) (nomark _)) (pw_or (pt_cmpR (op_neO T.O_Form (ok_Form___eq T) (hr.mono (by decide)) (b_Form___eq T) pass0) (pe_op (op_binI (op := .Mult) rfl rfl T.S_Form T.M_Form___mul T.Z_Form___mul (ok_Form___mul T) (hr.mono (by decide)) (b_Form___mul T) pass0) (pv 0) pe_int) (pe_op (op_binO (op := .Mult) rfl T.S_Form T.M_Form___mul (ok_Form___mul T) (hr.mono (by decide)) (b_Form___mul T) pass0) (pv 0) (pe_call (ok_number T) (hr.mono (by decide)) (by rfl) T.m_number T.F_number.kp (b_number T) .nil pass0 (pa_cons pe_int pa_nil))) (nomark _)) (pw_or1 (pt_cmpR (op_neO T.O_Form (ok_Form___eq T) (hr.mono (by decide)) (b_Form___eq T) pass0) (pe_op (op_binI (op := .Sub) rfl rfl T.S_Form T.M_Form___sub T.Z_Form___sub (ok_Form___sub T) (hr.mono (by decide)) (b_Form___sub T) pass0) (pv 0) pe_int) (pe_op (op_binO (op := .Sub) rfl T.S_Form T.M_Form___sub (ok_Form___sub T) (hr.mono (by decide)) (b_Form___sub T) pass0) (pv 0) (pe_call (ok_number T) (hr.mono (by decide)) (by rfl) T.m_number T.F_number.kp (b_number T) .nil pass0 (pa_cons pe_int pa_nil))) (nomark _)))))) (pss_one (ps_ret pe_bl)) pss_nil)
      (pss_cons (ps_if (PW.pt (pw_or (pt_cmpR (op_neX hr.units) (pe_meth0 (pe_op (op_binI (op := .Add) rfl rfl T.S_Form T.M_Form___add T.Z_Form___add (ok_Form___add T) (hr.mono (by decide)) (b_Form___add T) pass0) (pe_op (op_binI (op := .Add) rfl rfl T.S_Form T.M_Form___add T.Z_Form___add (ok_Form___add T) (hr.mono (by decide)) (b_Form___add T) pass0) (pv 0) pe_int) (pe_un un_neg pe_int)) T.c_Form T.M_Form_terms (ok_Form_terms T TB) (hr.mono (by decide)) (b_Form_terms T) .nil pass0) (pe_meth0 (pv 0) T.c_Form T.M_Form_terms (ok_Form_terms T TB) (hr.mono (by decide)) (b_Form_terms T) .nil pass0) (nomark _)) (pw_or (pt_cmpR (op_neX hr.units) (pe_meth0 (pe_op (op_binI (op := .Mult) rfl rfl T.S_Form T.M_Form___mul T.Z_Form___mul (ok_Form___mul T) (hr.mono (by decide)) (b_Form___mul T) pass0) (pv 0) pe_int) T.c_Form T.M_Form_terms (ok_Form_terms T TB) (hr.mono (by decide)) (b_Form_terms T) .nil pass0) (pe_lst pa_nil) (nomark _)) (pw_or1 (pt_cmpR (op_neO T.O_Form (ok_Form___eq T) (hr.mono (by decide)) (b_Form___eq T) pass0) (pe_op (op_binI (op := .Mult) rfl rfl T.S_Form T.M_Form___mul T.Z_Form___mul (ok_Form___mul T) (hr.mono (by decide)) (b_Form___mul T) pass0) (pe_meth (pv 0) T.c_Form T.M_Form_over (ok_Form_over T) (hr.mono (by decide)) (b_Form_over T) .nil pass0 (pa_cons pe_int pa_nil)) pe_int) (pv 0) (nomark _)))))) (pss_one (ps_ret pe_bl)) pss_nil)
      (pss_cons (ps_par (i := 1) (j := 2) rfl sc_law_wholes_right.nd rfl rfl (by decide) rfl rfl (pa_cons (pv 0) (pa_cons (pe_meth0 (pv 0) T.c_Form T.M_Form_terms (ok_Form_terms T TB) (hr.mono (by decide)) (b_Form_terms T) .nil pass0) pa_nil)) (by rfl))
      (pss_cons (ps_aug (i := 1) sc_law_wholes_right.nd rfl (Or.inl rfl) pe_int (ip_binI (op := .Add) rfl rfl rfl (by decide) T.J_Form___add T.S_Form T.M_Form___add T.Z_Form___add (ok_Form___add T) (hr.mono (by decide)) (b_Form___add T) pass0))
      (pss_cons (ps_if (PW.pt (pw_or (pt_cmpR (op_neX hr.units) (pe_meth0 (pv 0) T.c_Form T.M_Form_terms (ok_Form_terms T TB) (hr.mono (by decide)) (b_Form_terms T) .nil pass0) (pv 2) (nomark _)) (pw_or1 (pt_cmpR (op_eqX hr.units) (pe_meth0 (pv 1) T.c_Form T.M_Form_terms (ok_Form_terms T TB) (hr.mono (by decide)) (b_Form_terms T) .nil pass0) (pv 2) (nomark _))))) (pss_one (ps_ret pe_bl)) pss_nil)
      (pss_cons (ps_aug (i := 1) sc_law_wholes_right.nd rfl (Or.inl rfl) pe_int (ip_binI (op := .Sub) rfl rfl rfl (by decide) T.J_Form___sub T.S_Form T.M_Form___sub T.Z_Form___sub (ok_Form___sub T) (hr.mono (by decide)) (b_Form___sub T) pass0))
      (pss_one (ps_ret (pe_and (pe_cmpR (op_eqO T.O_Form (ok_Form___eq T) (hr.mono (by decide)) (b_Form___eq T) pass0) (pe_meth (pe_op (op_binI (op := .Mult) rfl rfl T.S_Form T.M_Form___mul T.Z_Form___mul (ok_Form___mul T) (hr.mono (by decide)) (b_Form___mul T) pass0) (pv 0) pe_int) T.c_Form T.M_Form_over (ok_Form_over T) (hr.mono (by decide)) (b_Form_over T) .nil pass0 (pa_cons pe_int pa_nil)) (pv 0) (nomark _)) (pe_and (pe_cmpR (op_eqO T.O_Form (ok_Form___eq T) (hr.mono (by decide)) (b_Form___eq T) pass0) (pv 1) (pv 0) (nomark _)) (pe_one (pe_cmpR (op_eqX hr.units) (pe_meth0 (pe_meth (pe_op (op_binO (op := .Add) rfl T.S_Form T.M_Form___add (ok_Form___add T) (hr.mono (by decide)) (b_Form___add T) pass0) (pv 0) (pv 0)) T.c_Form T.M_Form_over (ok_Form_over T) (hr.mono (by decide)) (b_Form_over T) .nil pass0 (pa_cons pe_int pa_nil)) T.c_Form T.M_Form_terms (ok_Form_terms T TB) (hr.mono (by decide)) (b_Form_terms T) .nil pass0) (pe_meth0 (pv 0) T.c_Form T.M_Form_terms (ok_Form_terms T TB) (hr.mono (by decide)) (b_Form_terms T) .nil pass0) (nomark _))))))))))))), rd_law_wholes_right T vs H Q E h⟩
end
end CP

namespace CP
open PySem L2
section
variable {P : Program} {w : World} {K : PySem.W.Frag} {mg : Str → Option Value} {base : Heap}
def sgnL : List Str := (List.range 19).map fun i => ⟨#[if i < 13 then 97 + i else 98 + i]⟩
def oneF (w : Str) : Fm := ([([w], 1)], 1)
def prodF0 (i : Nat) : Fm := (sgnL.take i).foldl (fun a w => mulM a (oneF w)) (oneF "n")
def totF0 (i : Nat) : Fm := (sgnL.take i).foldl (fun a w => addM a (oneF w)) (madeM [([], 0)] 1)
theorem once_ok : (List.range 20).all (fun i => okF (prodF0 i) && okF (totF0 i)) = true := by decide +kernel
def putB (f : Fm) (x : Str) (g : Fm) : Bool := okF f && okF g && ((List.range (cntM f x + 1)).all fun k => okF (powM g k)) && ((List.range f.1.length).all fun i => okF ((f.1.take i).foldl (putStep f.2 g x) (madeM [] 1))) && (f.1.all fun r => okF (oneM f.2 x r) && okF (mulM (oneM f.2 x r) (powM g (r.1.count x))))
theorem putB_ok {f : Fm} {x : Str} {g : Fm} (h : putB f x g = true) : PutOk f x g := by
  unfold putB at h
  simp only [Bool.and_eq_true, List.all_eq_true] at h
  obtain ⟨⟨⟨⟨a, b⟩, c⟩, d⟩, e⟩ := h
  exact ⟨okF_ok a, okF_ok b, fun k hk => okF_ok (c k (List.mem_range.mpr (by omega))), fun i hi => okF_ok (d i (List.mem_range.mpr hi)), fun r hr => ⟨okF_ok (e r hr).1, okF_ok (e r hr).2⟩⟩
def bltF : Fm := putM (prodF0 19) "n" (totF0 19)
theorem blt_put : putB (prodF0 19) "n" (totF0 19) = true := by decide +kernel
theorem blt_ok : okF bltF = true ∧ (termsM bltF).length = 19 ∧ degM bltF = 20 ∧ decide (("n" : Str) ∈ letsM bltF) = false := by decide +kernel
def totN : Fm := mulM (totF0 19) (oneF "n")
theorem tot_put : putB totN "n" (madeM [([], 3)] 1) = true := by decide +kernel
theorem tot_eq : eqM (putM totN "n" (madeM [([], 3)] 1)) (mulM (totF0 19) (madeM [([], 3)] 1)) = true ∧ okF totN = true ∧ okF (putM totN "n" (madeM [([], 3)] 1)) = true ∧ okF (mulM (totF0 19) (madeM [([], 3)] 1)) = true := by decide +kernel
theorem blt_few : (letsM bltF).length < 64 ∧ bltF.1.length ≤ 100000 := by decide +kernel
theorem sz19 : (("abcdefghijklmopqrst" : Str)).cps.size = 19 := by decide +kernel
theorem for_chars {z : Str} {g : TG} {tb : TS} {D : Ends} {σ : L2.St} {H : Hp} (Pv : Nat → L2.St → Hp → Prop) (h0 : Pv 0 σ H)
    (hs : ∀ i c σ H, z.cps[i]? = some c → Pv i σ H → g (.str ⟨#[c]⟩) σ H fun σ2 H2 => tb { D with nx := Pv (i + 1), ct := Pv (i + 1), bk := D.nx } σ2 H2) (hd : ∀ σ H, Pv z.cps.size σ H → D.nx σ H) :
    ∃ W : Nat → Nat → L2.St → Hp → Prop, (∃ m, W 0 m σ H) ∧ ∀ i m σ H, W i m σ H →
      ((Its z).stop i H ∧ D.nx σ H) ∨ ((Its z).go i H ∧ ∃ N : L2.St → Hp → Prop, (∀ σ' H', N σ' H' → ∃ m', m' < m ∧ W (i + 1) m' σ' H') ∧ ∀ x H', (Its z).yld i H x H' → g x σ H' fun σ2 H2 => tb { D with nx := N, ct := N, bk := D.nx } σ2 H2) := by
  refine ⟨fun i m σ H => m = z.cps.size - i ∧ i ≤ z.cps.size ∧ Pv i σ H, ⟨_, rfl, Nat.zero_le _, h0⟩, ?_⟩
  rintro i m σ H ⟨rfl, hi, p⟩
  by_cases hlt : i < z.cps.size
  · refine .inr ⟨hlt, Pv (i + 1), fun σ' H' p' => ⟨z.cps.size - (i + 1), by omega, rfl, hlt, p'⟩, fun x H' y => ?_⟩
    obtain ⟨rfl, c, hc, rfl⟩ := y
    exact hs i c σ _ hc p
  · have e : i = z.cps.size := by omega
    subst e
    exact .inl ⟨Nat.le_refl _, hd σ H p⟩
theorem once_get {i : Nat} (h : i < 20) : FOk (prodF0 i) ∧ FOk (totF0 i) := by
  have := List.all_eq_true.mp once_ok i (List.mem_range.mpr h)
  rw [Bool.and_eq_true] at this
  exact ⟨okF_ok this.1, okF_ok this.2⟩
theorem sgn_at {i c : Nat} (h : (("abcdefghijklmopqrst" : Str)).cps[i]? = some c) : i < 19 ∧ sgnL[i]? = some ⟨#[c]⟩ ∧ letB ⟨#[c]⟩ = true ∧ FOk (oneF ⟨#[c]⟩) := by
  have all : (List.range 19).all (fun i => match (("abcdefghijklmopqrst" : Str)).cps[i]? with | some c => decide (sgnL[i]? = some ⟨#[c]⟩) && letB ⟨#[c]⟩ && okF (oneF ⟨#[c]⟩) | none => false) = true := by decide +kernel
  have sz : (("abcdefghijklmopqrst" : Str)).cps.size = 19 := by decide +kernel
  have il : i < 19 := by
    rw [← sz]
    exact (Array.getElem?_eq_some_iff.mp h).1
  have := List.all_eq_true.mp all i (List.mem_range.mpr il)
  rw [h] at this
  simp only [Bool.and_eq_true, decide_eq_true_eq] at this
  exact ⟨il, this.1.1, this.1.2, okF_ok this.2⟩
def sp_law_put_once_right (T : Txt K mg) : Sp := fun vs H Q _ => vs = [] ∧ LamX.Tabs (tabF T.tP) H ∧ ∀ H', LamX.ExtN H H' → LamX.Tabs (tabF T.tP) H' → Q (.bl true) H'
@[reducible] def t_law_put_once_right_0 (w : World) (T : Txt K mg) : TS := tPar 0 1 (tCons (tOp (rBinO T.a_Form (sp_Form___mul T) E0) (tVar 0) (tCall (sp_letter T) [] E0 (tCons (tVar 3) (tNil)))) (tCons (tOp (rBinO T.a_Form (sp_Form___add T) E0) (tVar 1) (tCall (sp_letter T) [] E0 (tCons (tVar 3) (tNil)))) (tNil)))
@[reducible] def t_law_put_once_right_1 (w : World) (T : Txt K mg) : TS := tRet (tOp (rEqO T.a_Form (sp_Form___eq T) E0) (tMeth T.a_Form "put" (sp_Form_put T) [] E0 (tOp (rBinO T.a_Form (sp_Form___mul T) E0) (tVar 1) (tCall (sp_letter T) [] E0 (tCons (tC (.str "n")) (tNil)))) (tCons (tC (.str "n")) (tCons (tCall (sp_number T) [] E0 (tCons (tC (.int 3)) (tNil))) (tNil)))) (tOp (rBinI T.a_Form (sp_Form___mul T) E0) (tVar 1) (tC (.int 3))))
@[reducible] def t_law_put_once_right_2 (w : World) (T : Txt K mg) : TS := tSeq (tIfS (tOr (tTest (tOp rNe (tCB (rLenA K) (tCons (tMeth T.a_Form "terms" (sp_Form_terms T) [] E0 (tVar 4) tNil) (tNil))) (tC (.int 19)))) (tOr (tTest (tOp rNe (tMeth T.a_Form "degree" (sp_Form_degree T) [] E0 (tVar 4) tNil) (tC (.int 20)))) (tTest (tOp (rIn K false) (tC (.str "n")) (tMeth T.a_Form "letters" (sp_Form_letters T) [] E0 (tVar 4) tNil))))) (tRet (tC (.bl false))) (tNext)) (t_law_put_once_right_1 w T)
@[reducible] def t_law_put_once_right_3 (w : World) (T : Txt K mg) : TS := tSeq (tAsg (tMeth T.a_Form "put" (sp_Form_put T) [] E0 (tVar 0) (tCons (tC (.str "n")) (tCons (tVar 1) (tNil)))) (gName 4)) (t_law_put_once_right_2 w T)
@[reducible] def t_law_put_once_right_4 (w : World) (T : Txt K mg) : TS := tSeq (tFor (iStr (tVar 2)) (gName 3) (t_law_put_once_right_0 w T)) (t_law_put_once_right_3 w T)
def t_law_put_once_right (w : World) (T : Txt K mg) : TS := tSeq (tPar3 0 1 2 (tCons (tCall (sp_letter T) [] E0 (tCons (tC (.str "n")) (tNil))) (tCons (tCall (sp_number T) [] E0 (tCons (tC (.int 0)) (tNil))) (tCons (tC (.str "abcdefghijklmopqrst")) (tNil))))) (t_law_put_once_right_4 w T)
theorem len_law_put_once_right (T : Txt K mg) : ∀ (vs : List V) (H : Hp) (Q : VK) (E : XK), sp_law_put_once_right T vs H Q E → vs.length = ([] : List Str).length := by
  rintro vs H Q E ⟨rfl, h⟩
  rfl
theorem rd_law_put_once_right (T : Txt K mg) (vs : List V) (H : Hp) (Q : VK) (E : XK) (h : sp_law_put_once_right T vs H Q E) : t_law_put_once_right w T { nx := fun _ H' => Q .non H', rt := Q } (start ["_law_product", "_law_total", "_law_letters", "_law_sign", "_law_built"] vs) H := by
  obtain ⟨rfl, hT, q⟩ := h
  have szl : sizeLine = 16777216 := rfl
  unfold t_law_put_once_right
  walk_at "st"
  repeat walk_at "w"
  refine ⟨by decide +kernel, fun o1 H1 o10 s1 h1 => ?_⟩
  repeat walk_at "w"
  refine fun o2 H2 o20 s2 h2 => ?_
  repeat walk_at "w"
  have S2 := s1.trans s2
  refine for_chars (fun i σ H' => Same H H' ∧ ∃ a b x, FormZ T.z T.a_Form H' a (prodF0 i) ∧ FormZ T.z T.a_Form H' b (totF0 i) ∧ σ = [some (.ref a), some (.ref b), some (.str "abcdefghijklmopqrst"), x, none]) ⟨S2, o1, o2, _, h1.mono s2, h2, rfl⟩ ?_ ?_
  · rintro i c σ H3 hc ⟨s3, a, b, x, ha, hb, rfl⟩
    obtain ⟨i19, sg, lc, oc⟩ := sgn_at hc
    obtain ⟨fp, ft⟩ := once_get (i := i) (by omega)
    obtain ⟨da, _, haa, _⟩ := id ha
    obtain ⟨db, _, hbb, _⟩ := id hb
    repeat walk_at "w"
    refine ⟨lc, fun o3 H4 o30 s4 h3 => ?_⟩
    obtain ⟨dc, _, h33, _⟩ := id h3
    repeat walk_at "w"
    refine ⟨a, o3, da, dc, _, _, rfl, rfl, CP.Same.to s4 haa, h33, prodF0 i, oneF ⟨#[c]⟩, ha.mono s4, .inl ⟨o3, rfl, h3⟩, fp, oc, fun p H5 p0 s5 hp => ⟨p, rfl, ?_⟩⟩
    repeat walk_at "w"
    refine ⟨lc, fun o4 H6 o40 s6 h4 => ?_⟩
    obtain ⟨dd, _, h44, _⟩ := id h4
    have S6 := s4.trans (s5.trans s6)
    repeat walk_at "w"
    refine ⟨b, o4, db, dd, _, _, rfl, rfl, CP.Same.to S6 hbb, h44, totF0 i, oneF ⟨#[c]⟩, hb.mono S6, .inl ⟨o4, rfl, h4⟩, ft, oc, fun r H7 r0 s7 hr => ⟨r, rfl, ?_⟩⟩
    repeat walk_at "w"
    have e1 : prodF0 (i + 1) = mulM (prodF0 i) (oneF ⟨#[c]⟩) := by unfold prodF0; rw [take_succ sg, List.foldl_append]; rfl
    have e2 : totF0 (i + 1) = addM (totF0 i) (oneF ⟨#[c]⟩) := by unfold totF0; rw [take_succ sg, List.foldl_append]; rfl
    rw [e1, e2]
    exact ⟨s3.trans (S6.trans s7), p, r, _, hp.mono (s6.trans s7), hr, rfl⟩
  · rintro σ H3 ⟨s3, a, b, x, ha, hb, rfl⟩
    rw [sz19] at ha hb
    repeat walk_at "w"
    obtain ⟨da, _, haa, _⟩ := id ha
    obtain ⟨k1, k2, k3, k4⟩ := blt_ok
    refine ⟨a, da, _, rfl, haa, by rfl, ?_⟩
    repeat walk_at "w"
    refine ⟨_, _, ha, hb, by decide +kernel, putB_ok blt_put, fun p H4 s4 hp => ?_⟩
    have hp : FormZ T.z T.a_Form H4 p bltF := hp
    have S4 := s3.trans s4
    obtain ⟨dp, _, hpp, _⟩ := id hp
    repeat walk_at "w"
    refine ⟨p, dp, _, rfl, hpp, by rfl, ?_⟩
    repeat walk_at "w"
    refine ⟨bltF, hp, okF_ok k1, hT.ext S4, fun g H5 g0 e5 T5 ht => ?_⟩
    obtain ⟨vs, hv, pt⟩ := id ht
    have vl := pd_len pt
    have hp5 := hp.ext e5
    obtain ⟨dp5, _, hpp5, _⟩ := id hp5
    repeat walk_at "w"
    rw [show (!decide (((vs.length : Nat) : Int) = 19)) = false from by rw [vl, k2]; rfl]
    repeat walk_at "w"
    refine ⟨p, dp5, _, rfl, hpp5, by rfl, ?_⟩
    repeat walk_at "w"
    refine ⟨bltF, hp5, blt_few.2, fun r hr => Nat.le_trans ((okF_ok k1).lets r hr).2 (by decide), fun H6 s6 => ?_⟩
    rw [k3]
    have hp6 := hp5.mono s6
    obtain ⟨dp6, _, hpp6, _⟩ := id hp6
    repeat walk_at "w"
    rw [show (!decide (((20 : Nat) : Int) = 20)) = false from rfl]
    repeat walk_at "w"
    refine ⟨p, dp6, _, rfl, hpp6, by rfl, ?_⟩
    repeat walk_at "w"
    refine ⟨bltF, hp6, okF_ok k1, blt_few.1, fun lp H7 l0 s7 hl => ?_⟩
    refine r_inStr (.of hl) ?_
    rw [k4]
    have E7 : LamX.ExtN H H7 := (LamX.ExtN.of S4).trans (e5.trans (LamX.ExtN.of (s6.trans s7)))
    have T7 := T5.ext (s6.trans s7)
    have hb7 := ((hb.mono s4).ext e5).mono (s6.trans s7)
    repeat walk_at "w"
    refine ⟨by decide +kernel, fun o3 H8 o30 s8 h3 => ?_⟩
    have hb8 := hb7.mono s8
    obtain ⟨db8, _, hbb8, _⟩ := id hb8
    obtain ⟨d3, _, h33, _⟩ := id h3
    repeat walk_at "w"
    refine ⟨b, o3, db8, d3, _, _, rfl, rfl, hbb8, h33, totF0 19, oneF "n", hb8, .inl ⟨o3, rfl, h3⟩, (once_get (i := 19) (by decide)).2, okF_ok (by decide +kernel), fun r H9 r0 s9 hr => ⟨r, rfl, ?_⟩⟩
    have hr : FormZ T.z T.a_Form H9 r totN := hr
    obtain ⟨dr, _, hrr, _⟩ := id hr
    repeat walk_at "w"
    refine ⟨r, dr, _, rfl, hrr, by rfl, ?_⟩
    repeat walk_at "w"
    refine fun o4 H10 o40 s10 h4 => ?_
    repeat walk_at "w"
    refine ⟨_, _, hr.mono s10, h4, by decide +kernel, putB_ok tot_put, fun u H11 s11 hu => ?_⟩
    have S11 := s8.trans (s9.trans (s10.trans s11))
    have hb11 := hb7.mono S11
    obtain ⟨db11, _, hbb11, _⟩ := id hb11
    repeat walk_at "w"
    refine ⟨b, 3, db11, _, rfl, rfl, hbb11, totF0 19, madeM [([], 3)] 1, hb11, .inr ⟨3, rfl, rfl⟩, (once_get (i := 19) (by decide)).2, okF_ok (by decide +kernel), fun w2 H12 w0 s12 hw => ⟨w2, rfl, ?_⟩⟩
    have hu12 := hu.mono s12
    obtain ⟨du, _, huu, _⟩ := id hu12
    obtain ⟨dw, _, hww, _⟩ := id hw
    refine ⟨u, w2, du, dw, _, _, rfl, rfl, huu, hww, _, _, hu12, hw, _, rfl, ?_⟩
    rw [show eqM (putM totN "n" (madeM [([], 3)] 1)) (mulM (totF0 19) (madeM [([], 3)] 1)) = true from tot_eq.1]
    exact q _ (E7.trans (LamX.ExtN.of (S11.trans s12))) (T7.ext (S11.trans s12))

theorem ok_law_put_once_right (T : Txt K mg) (TB : LamX.TabB base mg T.tc T.tP) : FnOk T.z.1 T.z.2 K mg base CX0 11 T.a_law_put_once_right T.fd_law_put_once_right [] (sp_law_put_once_right T) :=
  T.F_law_put_once_right.ok sc_law_put_once_right (len_law_put_once_right T) fun cdv A outer s H vs Q E hr h => ⟨t_law_put_once_right T.z.2 T, (pss_cons (ps_par3 (i := 0) (j := 1) (l := 2) rfl sc_law_put_once_right.nd rfl rfl rfl (by decide) (by decide) (by decide) rfl rfl rfl (pa_cons (pe_call (ok_letter T) (hr.mono (by decide)) (by rfl) T.m_letter T.F_letter.kp (b_letter T) .nil pass0 (pa_cons pe_str pa_nil)) (pa_cons (pe_call (ok_number T) (hr.mono (by decide)) (by rfl) T.m_number T.F_number.kp (b_number T) .nil pass0 (pa_cons pe_int pa_nil)) (pa_cons pe_str pa_nil))) (by rfl))
      (pss_cons (ps_for PassesOwn.never rfl (pi_str (pv 2)) (pg_name (i := 3) sc_law_put_once_right.nd rfl (Or.inl rfl)) (pss_one (ps_par (i := 0) (j := 1) rfl sc_law_put_once_right.nd rfl rfl (by decide) rfl rfl (pa_cons (pe_op (op_binO (op := .Mult) rfl T.S_Form T.M_Form___mul (ok_Form___mul T) (hr.mono (by decide)) (b_Form___mul T) pass0) (pv 0) (pe_call (ok_letter T) (hr.mono (by decide)) (by rfl) T.m_letter T.F_letter.kp (b_letter T) .nil pass0 (pa_cons (pv 3) pa_nil))) (pa_cons (pe_op (op_binO (op := .Add) rfl T.S_Form T.M_Form___add (ok_Form___add T) (hr.mono (by decide)) (b_Form___add T) pass0) (pv 1) (pe_call (ok_letter T) (hr.mono (by decide)) (by rfl) T.m_letter T.F_letter.kp (b_letter T) .nil pass0 (pa_cons (pv 3) pa_nil))) pa_nil)) (by rfl))))
      (pss_cons (ps_set (i := 4) sc_law_put_once_right.nd rfl (Or.inl rfl) (pe_meth (pv 0) T.c_Form T.M_Form_put (ok_Form_put T) (hr.mono (by decide)) (b_Form_put T) .nil pass0 (pa_cons pe_str (pa_cons (pv 1) pa_nil))))
      (pss_cons (ps_if (PW.pt (pw_or (pt_cmpR op_ne (pe_callB call_lenA (by rfl) T.n_len (by decide +kernel) (pa_cons (pe_meth0 (pv 4) T.c_Form T.M_Form_terms (ok_Form_terms T TB) (hr.mono (by decide)) (b_Form_terms T) .nil pass0) pa_nil)) pe_int (nomark _)) (pw_or (pt_cmpR op_ne (pe_meth0 (pv 4) T.c_Form T.M_Form_degree (ok_Form_degree T) (hr.mono (by decide)) (b_Form_degree T) .nil pass0) pe_int (nomark _)) (pw_or1 (pt_cmpR op_in_seq pe_str (pe_meth0 (pv 4) T.c_Form T.M_Form_letters (ok_Form_letters T) (hr.mono (by decide)) (b_Form_letters T) .nil pass0) (by rfl)))))) (pss_one (ps_ret pe_bl)) pss_nil)
      (pss_one (ps_ret (pe_cmpR (op_eqO T.O_Form (ok_Form___eq T) (hr.mono (by decide)) (b_Form___eq T) pass0) (pe_meth (pe_op (op_binO (op := .Mult) rfl T.S_Form T.M_Form___mul (ok_Form___mul T) (hr.mono (by decide)) (b_Form___mul T) pass0) (pv 1) (pe_call (ok_letter T) (hr.mono (by decide)) (by rfl) T.m_letter T.F_letter.kp (b_letter T) .nil pass0 (pa_cons pe_str pa_nil))) T.c_Form T.M_Form_put (ok_Form_put T) (hr.mono (by decide)) (b_Form_put T) .nil pass0 (pa_cons pe_str (pa_cons (pe_call (ok_number T) (hr.mono (by decide)) (by rfl) T.m_number T.F_number.kp (b_number T) .nil pass0 (pa_cons pe_int pa_nil)) pa_nil))) (pe_op (op_binI (op := .Mult) rfl rfl T.S_Form T.M_Form___mul T.Z_Form___mul (ok_Form___mul T) (hr.mono (by decide)) (b_Form___mul T) pass0) (pv 1) pe_int) (nomark _)))))))), rd_law_put_once_right T vs H Q E h⟩
end
end CP

namespace CP
open PySem L2
section
variable {P : Program} {w : World} {K : PySem.W.Frag} {mg : Str → Option Value} {base : Heap}
def sp_law_fractions_right (T : Txt K mg) : Sp := fun vs H Q _ => vs = [] ∧ LamX.Tabs (tabF T.tP) H ∧ ∀ H', LamX.ExtN H H' → LamX.Tabs (tabF T.tP) H' → Q (.bl true) H'
theorem fr_ok : ([nF3, mF3, mulM nF3 nF3, overM mF3 3, sqF3, overM mF3 2, haF3, mulM mF3 mF3, overM (mulM mF3 mF3) 4, addM (overM (mulM mF3 mF3) 4) (overM mF3 3), addM nF3 (negM mF3), putM (addM nF3 (negM mF3)) "n" mF3, overM nF3 2, numF 2, mulM mF3 (numF 2), numF 100000000000000000000, overM nF3 100000000000000000000, mulM nF3 (numF 100000000000000000000), numF 10, overM nF3 (-3), addM nF3 (negM nF3)] : List Fm).all okF = true := by decide +kernel
theorem fr_okA {f : Fm} (h : f ∈ ([nF3, mF3, mulM nF3 nF3, overM mF3 3, sqF3, overM mF3 2, haF3, mulM mF3 mF3, overM (mulM mF3 mF3) 4, addM (overM (mulM mF3 mF3) 4) (overM mF3 3), addM nF3 (negM mF3), putM (addM nF3 (negM mF3)) "n" mF3, overM nF3 2, numF 2, mulM mF3 (numF 2), numF 100000000000000000000, overM nF3 100000000000000000000, mulM nF3 (numF 100000000000000000000), numF 10, overM nF3 (-3), addM nF3 (negM nF3)] : List Fm)) : FOk f := okF_ok (List.all_eq_true.mp fr_ok f h)
theorem fr_puts : putB sqF3 "n" (overM mF3 2) = true ∧ putB (addM nF3 (negM mF3)) "n" mF3 = true ∧ putB (overM nF3 2) "n" (mulM mF3 (numF 2)) = true ∧ putB (addM nF3 (negM nF3)) "n" mF3 = true := by decide +kernel
theorem fr_small : (letsM haF3).length < 64 ∧ haF3.1.length ≤ 100000 := by decide +kernel
theorem let_nm : letB "n" = true ∧ letB "m" = true := by decide +kernel
theorem pw20 : CPw 10 20 ∧ CPw 10 19 := ⟨⟨by decide, by decide, by decide +kernel⟩, by decide, by decide, by decide +kernel⟩
theorem pw20_is : (10 : Int) ^ (20 : Int).toNat = 100000000000000000000 ∧ (10 : Int) ^ (19 : Int).toNat = 10000000000000000000 := by decide +kernel
theorem lay_nm : (PyData.str "n").canLay0 = true ∧ (PyData.str "m").canLay0 = true := ⟨let_lay let_nm.1, let_lay let_nm.2⟩
@[reducible] def t_law_fractions_right_0 (w : World) (T : Txt K mg) : TS := tRet (tAndV (tOp (rEqX K) (tMeth T.a_Form "terms" (sp_Form_terms T) [] E0 (tMeth T.a_Form "over" (sp_Form_over T) [] E0 (tVar 0) (tCons (tUn oNeg (tC (.int 3))) (tNil))) tNil) (tLst (tCons (tTup (tCons (tUn oNeg (tC (.int 1))) (tCons (tC (.int 3)) (tCons (tLst (tCons (tC (.str "n")) (tNil))) (tNil))))) (tNil)))) (tOp (rEqO T.a_Form (sp_Form___eq T) E0) (tMeth T.a_Form "put" (sp_Form_put T) [] E0 (tOp (rBinO T.a_Form (sp_Form___sub T) E0) (tVar 0) (tVar 0)) (tCons (tC (.str "n")) (tCons (tVar 1) (tNil)))) (tOp (rBinO T.a_Form (sp_Form___sub T) E0) (tVar 0) (tVar 0))))
@[reducible] def t_law_fractions_right_1 (w : World) (T : Txt K mg) : TS := tSeq (tIfS (tOr (tTest (tOp (rNeX K) (tMeth T.a_Form "terms" (sp_Form_terms T) [] E0 (tMeth T.a_Form "over" (sp_Form_over T) [] E0 (tVar 0) (tCons (tVar 4) (tNil))) tNil) (tLst (tCons (tTup (tCons (tC (.int 1)) (tCons (tVar 4) (tCons (tLst (tCons (tC (.str "n")) (tNil))) (tNil))))) (tNil))))) (tTest (tOp (rNeO T.a_Form (sp_Form___eq T) E0) (tMeth T.a_Form "over" (sp_Form_over T) [] E0 (tOp (rBinI T.a_Form (sp_Form___mul T) E0) (tVar 0) (tVar 4)) (tCons (tOp oPow (tC (.int 10)) (tC (.int 19))) (tNil))) (tOp (rBinI T.a_Form (sp_Form___mul T) E0) (tVar 0) (tC (.int 10)))))) (tRet (tC (.bl false))) (tNext)) (t_law_fractions_right_0 w T)
@[reducible] def t_law_fractions_right_2 (w : World) (T : Txt K mg) : TS := tSeq (tAsg (tOp oPow (tC (.int 10)) (tC (.int 20))) (gName 4)) (t_law_fractions_right_1 w T)
@[reducible] def t_law_fractions_right_3 (w : World) (T : Txt K mg) : TS := tSeq (tIfS (tOr (tTest (tOp (rNeX K) (tMeth T.a_Form "terms" (sp_Form_terms T) [] E0 (tMeth T.a_Form "put" (sp_Form_put T) [] E0 (tOp (rBinO T.a_Form (sp_Form___sub T) E0) (tVar 0) (tVar 1)) (tCons (tC (.str "n")) (tCons (tVar 1) (tNil)))) tNil) (tLst (tNil)))) (tTest (tOp (rNeO T.a_Form (sp_Form___eq T) E0) (tMeth T.a_Form "put" (sp_Form_put T) [] E0 (tMeth T.a_Form "over" (sp_Form_over T) [] E0 (tVar 0) (tCons (tC (.int 2)) (tNil))) (tCons (tC (.str "n")) (tCons (tOp (rBinI T.a_Form (sp_Form___mul T) E0) (tVar 1) (tC (.int 2))) (tNil)))) (tVar 1)))) (tRet (tC (.bl false))) (tNext)) (t_law_fractions_right_2 w T)
@[reducible] def t_law_fractions_right_4 (w : World) (T : Txt K mg) : TS := tSeq (tIfS (tOr (tTest (tOp (rNeO T.a_Form (sp_Form___eq T) E0) (tVar 3) (tOp (rBinO T.a_Form (sp_Form___add T) E0) (tMeth T.a_Form "over" (sp_Form_over T) [] E0 (tOp (rBinO T.a_Form (sp_Form___mul T) E0) (tVar 1) (tVar 1)) (tCons (tC (.int 4)) (tNil))) (tMeth T.a_Form "over" (sp_Form_over T) [] E0 (tVar 1) (tCons (tC (.int 3)) (tNil)))))) (tTest (tOp (rNeX K) (tMeth T.a_Form "terms" (sp_Form_terms T) [] E0 (tVar 2) tNil) (tLst (tCons (tTup (tCons (tC (.int 1)) (tCons (tC (.int 3)) (tCons (tLst (tCons (tC (.str "m")) (tNil))) (tNil))))) (tCons (tTup (tCons (tC (.int 1)) (tCons (tC (.int 1)) (tCons (tLst (tCons (tC (.str "n")) (tCons (tC (.str "n")) (tNil)))) (tNil))))) (tNil))))))) (tRet (tC (.bl false))) (tNext)) (t_law_fractions_right_3 w T)
@[reducible] def t_law_fractions_right_5 (w : World) (T : Txt K mg) : TS := tSeq (tIfS (tTest (tOp rNe (tMeth T.a_Form "degree" (sp_Form_degree T) [] E0 (tVar 3) tNil) (tC (.int 2)))) (tRet (tC (.bl false))) (tNext)) (t_law_fractions_right_4 w T)
@[reducible] def t_law_fractions_right_6 (w : World) (T : Txt K mg) : TS := tSeq (tIfS (tOr (tTest (tOp (rNeX K) (tMeth T.a_Form "terms" (sp_Form_terms T) [] E0 (tVar 3) tNil) (tLst (tCons (tTup (tCons (tC (.int 1)) (tCons (tC (.int 3)) (tCons (tLst (tCons (tC (.str "m")) (tNil))) (tNil))))) (tCons (tTup (tCons (tC (.int 1)) (tCons (tC (.int 4)) (tCons (tLst (tCons (tC (.str "m")) (tCons (tC (.str "m")) (tNil)))) (tNil))))) (tNil)))))) (tTest (tOp (rNeX K) (tMeth T.a_Form "letters" (sp_Form_letters T) [] E0 (tVar 3) tNil) (tLst (tCons (tC (.str "m")) (tNil)))))) (tRet (tC (.bl false))) (tNext)) (t_law_fractions_right_5 w T)
@[reducible] def t_law_fractions_right_7 (w : World) (T : Txt K mg) : TS := tSeq (tAsg (tMeth T.a_Form "put" (sp_Form_put T) [] E0 (tVar 2) (tCons (tC (.str "n")) (tCons (tMeth T.a_Form "over" (sp_Form_over T) [] E0 (tVar 1) (tCons (tC (.int 2)) (tNil))) (tNil)))) (gName 3)) (t_law_fractions_right_6 w T)
@[reducible] def t_law_fractions_right_8 (w : World) (T : Txt K mg) : TS := tSeq (tAsg (tOp (rBinO T.a_Form (sp_Form___add T) E0) (tOp (rBinO T.a_Form (sp_Form___mul T) E0) (tVar 0) (tVar 0)) (tMeth T.a_Form "over" (sp_Form_over T) [] E0 (tVar 1) (tCons (tC (.int 3)) (tNil)))) (gName 2)) (t_law_fractions_right_7 w T)
def t_law_fractions_right (w : World) (T : Txt K mg) : TS := tSeq (tPar 0 1 (tCons (tCall (sp_letter T) [] E0 (tCons (tC (.str "n")) (tNil))) (tCons (tCall (sp_letter T) [] E0 (tCons (tC (.str "m")) (tNil))) (tNil)))) (t_law_fractions_right_8 w T)
theorem len_law_fractions_right (T : Txt K mg) : ∀ (vs : List V) (H : Hp) (Q : VK) (E : XK), sp_law_fractions_right T vs H Q E → vs.length = ([] : List Str).length := by
  rintro vs H Q E ⟨rfl, h⟩
  rfl
theorem rd_law_fractions_right (T : Txt K mg) (vs : List V) (H : Hp) (Q : VK) (E : XK) (h : sp_law_fractions_right T vs H Q E) : t_law_fractions_right w T { nx := fun _ H' => Q .non H', rt := Q } (start ["_law_n", "_law_m", "_law_square", "_law_halved", "_law_far"] vs) H := by
  obtain ⟨rfl, hT, q⟩ := h
  have szl : sizeLine = 16777216 := rfl
  unfold t_law_fractions_right
  walk_at "st"
  repeat walk_at "w"
  refine ⟨let_nm.1, fun n H1 n0 s1 hn => ?_⟩
  repeat walk_at "w"
  refine ⟨let_nm.2, fun m H2 m0 s2 hm => ?_⟩
  have hn : FormZ T.z T.a_Form H2 n nF3 := hn.mono s2
  have hm : FormZ T.z T.a_Form H2 m mF3 := hm
  have on := fr_okA (f := nF3) (by simp)
  have om := fr_okA (f := mF3) (by simp)
  have hT2 := hT.ext (s1.trans s2)
  have E2 := LamX.ExtN.of (s1.trans s2)
  clear hT s1 s2 n0 m0
  repeat walk_at "w"
  refine d_mulO hn hn on on fun o1 H3 o10 s3 h1 => ?_
  have hm3 := hm.mono s3
  repeat walk_at "w"
  refine d_over hm3 om (by decide) (by decide) fun o2 H4 o20 s4 h2 => ?_
  repeat walk_at "w"
  refine d_addO (h1.mono s4) h2 (fr_okA (by simp)) (fr_okA (by simp)) fun sq H5 sq0 s5 hsq => ?_
  have hsq : FormZ T.z T.a_Form H5 sq sqF3 := hsq
  have S5 := s3.trans (s4.trans s5)
  have hn5 := hn.mono S5
  have hm5 := hm.mono S5
  have T5 := hT2.ext S5
  have E5 := E2.trans (LamX.ExtN.of S5)
  clear h1 h2 hm3 hn hm hT2 E2 s3 s4 s5 S5 o10 o20 sq0
  repeat walk_at "w"
  obtain ⟨dx, d, e⟩ := hsq.at_
  refine ⟨sq, dx, _, rfl, e, by rfl, ?_⟩
  clear e
  repeat walk_at "w"
  refine d_over hm5 om (by decide) (by decide) fun o1 H6 o10 s6 h1 => ?_
  repeat walk_at "w"
  refine d_put (hsq.mono s6) h1 let_nm.1 (putB_ok fr_puts.1) fun ha H7 s7 hha => ?_
  have hha : FormZ T.z T.a_Form H7 ha haF3 := hha
  have S7 := s6.trans s7
  have hn7 := hn5.mono S7
  have hm7 := hm5.mono S7
  have hs7 := hsq.mono S7
  have T7 := T5.ext S7
  have E7 := E5.trans (LamX.ExtN.of S7)
  clear h1 hn5 hm5 T5 E5 s6 s7 S7 o10 hsq dx d
  repeat walk_at "w"
  have oh := fr_okA (f := haF3) (by simp)
  refine d_terms hha oh T7 fun t1 H8 t10 e8 T8 ht1 => ?_
  have ht1 := ht1.at
  rw [fr_half.1] at ht1
  have hh8 := hha.ext e8
  have hn8 := hn7.ext e8
  have hm8 := hm7.ext e8
  have hs8 := hs7.ext e8
  have E8 := E7.trans e8
  clear hha hn7 hm7 hs7 E7 T7 e8 t10
  repeat walk_at "w"
  rename_i l1 G1 l10 g1 hl1 c1 G2 c10 g2 hc1 l2 G3 l20 g3 hl2 c2 G4 c20 g4 hc2 ls G5 ls0 g5 hls
  have R3 := g4.trans g5
  have R2 := g3.trans R3
  have R1 := g2.trans R2
  have R0 := g1.trans R1
  have hx : TermsAt G5 ls [(1, 3, [("m" : Str)]), (1, 4, [("m" : Str), "m"])] := ⟨_, hls, .cons ⟨c1, l1, rfl, CP.Same.to R2 hc1, CP.Same.to R1 hl1⟩ (.cons ⟨c2, l2, rfl, CP.Same.to g5 hc2, CP.Same.to R3 hl2⟩ .nil)⟩
  refine tms_neX (ht1.ext (LamX.ExtN.of R0)) hx (by simp [lay_nm]) (by simp [lay_nm]) ⟨_, rfl, ?_⟩
  rw [decide_eq_true rfl]
  have hh9 := hh8.mono R0
  have hn9 := hn8.mono R0
  have hm9 := hm8.mono R0
  have hs9 := hs8.mono R0
  have T9 := T8.ext R0
  have E9 := E8.trans (LamX.ExtN.of R0)
  clear hx ht1 hh8 hn8 hm8 hs8 T8 E8 R0 R1 R2 R3 g1 g2 g3 g4 g5 hl1 hc1 hl2 hc2 hls l10 c10 l20 c20 ls0
  repeat walk_at "w"
  obtain ⟨dx, d, e⟩ := hh9.at_
  refine ⟨ha, dx, _, rfl, e, by rfl, ?_⟩
  clear e
  repeat walk_at "w"
  refine ⟨haF3, hh9, oh, fr_small.1, fun lp H10 l0 s10 hl => ?_⟩
  rw [fr_half.2.1] at hl
  repeat walk_at "w"
  rename_i l1 G1 l10 g1 hl1
  refine strs_neX (xs := ["m"]) (ys := ["m"]) (.of (CP.Same.to g1 hl)) (.of hl1) (by simp [lay_nm]) (by simp [lay_nm]) ⟨_, rfl, ?_⟩
  rw [decide_eq_true rfl]
  have R0 := s10.trans g1
  have hh10 := hh9.mono R0
  have hn10 := hn9.mono R0
  have hm10 := hm9.mono R0
  have hs10 := hs9.mono R0
  have T10 := T9.ext R0
  have E10 := E9.trans (LamX.ExtN.of R0)
  clear hh9 hn9 hm9 hs9 T9 E9 R0 g1 s10 hl hl1 l0 l10 dx d
  repeat walk_at "w"
  obtain ⟨dx, d, e⟩ := hh10.at_
  refine ⟨ha, dx, _, rfl, e, by rfl, ?_⟩
  clear e
  repeat walk_at "w"
  refine ⟨haF3, hh10, fr_small.2, fun r hr => Nat.le_trans (oh.lets r hr).2 (by decide), fun H11 s11 => ?_⟩
  rw [fr_half.2.2.1]
  repeat walk_at "w"
  rw [show (!decide (((2 : Nat) : Int) = 2)) = false from rfl]
  have hh11 := hh10.mono s11
  have hn11 := hn10.mono s11
  have hm11 := hm10.mono s11
  have hs11 := hs10.mono s11
  have T11 := T10.ext s11
  have E11 := E10.trans (LamX.ExtN.of s11)
  clear hh10 hn10 hm10 hs10 T10 E10 s11 dx d
  repeat walk_at "w"
  refine d_mulO hm11 hm11 om om fun o1 H12 o10 s12 h1 => ?_
  repeat walk_at "w"
  refine d_over h1 (fr_okA (by simp)) (by decide) (by decide) fun o2 H13 o20 s13 h2 => ?_
  repeat walk_at "w"
  refine d_over (hm11.mono (s12.trans s13)) om (by decide) (by decide) fun o3 H14 o30 s14 h3 => ?_
  repeat walk_at "w"
  refine d_addO (h2.mono s14) h3 (fr_okA (by simp)) (fr_okA (by simp)) fun o4 H15 o40 s15 h4 => ?_
  have R0 := s12.trans (s13.trans (s14.trans s15))
  refine d_ne (hh11.mono R0) h4 ⟨_, rfl, ?_⟩
  rw [fr_half.2.2.2.1]
  have hn15 := hn11.mono R0
  have hm15 := hm11.mono R0
  have hs15 := hs11.mono R0
  have T15 := T11.ext R0
  have E15 := E11.trans (LamX.ExtN.of R0)
  clear hh11 hn11 hm11 hs11 T11 E11 s12 s13 s14 s15 R0 h1 h2 h3 h4 o10 o20 o30 o40
  repeat walk_at "w"
  refine d_terms hs15 (fr_okA (by simp)) T15 fun t1 H16 t10 e16 T16 ht1 => ?_
  have ht1 := ht1.at
  rw [fr_half.2.2.2.2] at ht1
  have hn16 := hn15.ext e16
  have hm16 := hm15.ext e16
  have E16 := E15.trans e16
  clear hn15 hm15 hs15 T15 E15 e16 t10
  repeat walk_at "w"
  rename_i l1 G1 l10 g1 hl1 c1 G2 c10 g2 hc1 l2 G3 l20 g3 hl2 c2 G4 c20 g4 hc2 ls G5 ls0 g5 hls
  have R3 := g4.trans g5
  have R2 := g3.trans R3
  have R1 := g2.trans R2
  have R0 := g1.trans R1
  have hx : TermsAt G5 ls [(1, 3, [("m" : Str)]), (1, 1, [("n" : Str), "n"])] := ⟨_, hls, .cons ⟨c1, l1, rfl, CP.Same.to R2 hc1, CP.Same.to R1 hl1⟩ (.cons ⟨c2, l2, rfl, CP.Same.to g5 hc2, CP.Same.to R3 hl2⟩ .nil)⟩
  refine tms_neX (ht1.ext (LamX.ExtN.of R0)) hx (by simp [lay_nm]) (by simp [lay_nm]) ⟨_, rfl, ?_⟩
  rw [decide_eq_true rfl]
  have hn17 := hn16.mono R0
  have hm17 := hm16.mono R0
  have T17 := T16.ext R0
  have E17 := E16.trans (LamX.ExtN.of R0)
  clear hx ht1 hn16 hm16 T16 E16 R0 R1 R2 R3 g1 g2 g3 g4 g5 hl1 hc1 hl2 hc2 hls l10 c10 l20 c20 ls0
  repeat walk_at "w"
  refine d_subO hn17 hm17 on om fun o1 H18 o10 s18 h1 => ?_
  repeat walk_at "w"
  obtain ⟨dx, d, e⟩ := h1.at_
  refine ⟨o1, dx, _, rfl, e, by rfl, ?_⟩
  clear e
  repeat walk_at "w"
  refine d_put h1 (hm17.mono s18) let_nm.1 (putB_ok fr_puts.2.1) fun o2 H19 s19 h2 => ?_
  have S19 := s18.trans s19
  repeat walk_at "w"
  refine d_terms h2 (fr_okA (by simp)) (T17.ext S19) fun t1 H20 t10 e20 T20 ht1 => ?_
  have ht1 := ht1.at
  rw [fr_put.1] at ht1
  repeat walk_at "w"
  rename_i ls G5 ls0 g5 hls
  have hx : TermsAt G5 ls [] := ⟨[], hls, .nil⟩
  refine tms_neX (ht1.ext (LamX.ExtN.of g5)) hx (by simp) (by simp) ⟨_, rfl, ?_⟩
  rw [decide_eq_true rfl]
  have E1721 := (LamX.ExtN.of S19).trans (e20.trans (LamX.ExtN.of g5))
  have hn21 := hn17.ext E1721
  have hm21 := hm17.ext E1721
  have T21 := T20.ext g5
  have E21 := E17.trans E1721
  clear hx ht1 hn17 hm17 T17 E17 E1721 T20 e20 g5 hls ls0 t10 S19 s18 s19 h1 h2 o10 dx d
  repeat walk_at "w"
  refine d_over hn21 on (by decide) (by decide) fun o1 H22 o10 s22 h1 => ?_
  repeat walk_at "w"
  obtain ⟨dx, d, e⟩ := h1.at_
  refine ⟨o1, dx, _, rfl, e, by rfl, ?_⟩
  clear e
  repeat walk_at "w"
  refine d_mulI (hm21.mono s22) om (fr_okA (by simp)) fun o2 H23 o20 s23 h2 => ?_
  repeat walk_at "w"
  refine d_put (h1.mono s23) h2 let_nm.1 (putB_ok fr_puts.2.2.1) fun o3 H24 s24 h3 => ?_
  have R0 := s22.trans (s23.trans s24)
  repeat walk_at "w"
  refine d_ne h3 (hm21.mono R0) ⟨_, rfl, ?_⟩
  rw [show eqM (putM (overM nF3 2) "n" (mulM mF3 (numF 2))) mF3 = true from fr_put.2]
  have hn24 := hn21.mono R0
  have hm24 := hm21.mono R0
  have T24 := T21.ext R0
  have E24 := E21.trans (LamX.ExtN.of R0)
  clear hn21 hm21 T21 E21 R0 s22 s23 s24 h1 h2 h3 o10 o20 dx d
  repeat walk_at "w"
  refine r_I pw20.1 ?_
  rw [pw20_is.1]
  repeat walk_at "w"
  obtain ⟨dx, d, e⟩ := hn24.at_
  refine ⟨n, dx, _, rfl, e, by rfl, ?_⟩
  clear e
  repeat walk_at "w"
  refine ⟨_, hn24, on, by decide, by decide, fun o1 H25 o10 s25 h1 => ?_⟩
  repeat walk_at "w"
  refine d_terms h1 (fr_okA (by simp)) (T24.ext s25) fun t1 H26 t10 e26 T26 ht1 => ?_
  have ht1 := ht1.at
  rw [fr_far.1] at ht1
  repeat walk_at "w"
  rename_i l1 G1 l10 g1 hl1 c1 G2 c10 g2 hc1 ls G5 ls0 g5 hls
  have R1 := g2.trans g5
  have R0 := g1.trans R1
  have hx : TermsAt G5 ls [(1, 100000000000000000000, [("n" : Str)])] := ⟨_, hls, .cons ⟨c1, l1, rfl, CP.Same.to g5 hc1, CP.Same.to R1 hl1⟩ .nil⟩
  refine tms_neX (ht1.ext (LamX.ExtN.of R0)) hx (by simp [lay_nm]) (by simp [lay_nm]) ⟨_, rfl, ?_⟩
  rw [decide_eq_true rfl]
  have X27 := (LamX.ExtN.of s25).trans (e26.trans (LamX.ExtN.of R0))
  have hn27 := hn24.ext X27
  have hm27 := hm24.ext X27
  have T27 := T26.ext R0
  have E27 := E24.trans X27
  clear hx ht1 hn24 hm24 T24 E24 X27 e26 T26 R0 R1 g1 g2 g5 hl1 hc1 hls l10 c10 ls0 t10 h1 o10 s25
  repeat walk_at "w"
  refine d_mulI hn27 on (fr_okA (by simp)) fun o1 H28 o10 s28 h1 => ?_
  repeat walk_at "w"
  obtain ⟨dx, d, e⟩ := h1.at_
  refine ⟨o1, dx, _, rfl, e, by rfl, ?_⟩
  clear e
  repeat walk_at "w"
  refine r_I pw20.2 ?_
  rw [pw20_is.2]
  repeat walk_at "w"
  refine ⟨_, h1, fr_okA (by simp), by decide, by decide, fun o2 H29 o20 s29 h2 => ?_⟩
  have S29 := s28.trans s29
  repeat walk_at "w"
  refine d_mulI (hn27.mono S29) on (fr_okA (by simp)) fun o3 H30 o30 s30 h3 => ?_
  refine d_ne (h2.mono s30) h3 ⟨_, rfl, ?_⟩
  rw [show eqM (overM (mulM nF3 (numF 100000000000000000000)) 10000000000000000000) (mulM nF3 (numF 10)) = true from fr_far.2]
  have S30 := S29.trans s30
  have hn30 := hn27.mono S30
  have hm30 := hm27.mono S30
  have T30 := T27.ext S30
  have E30 := E27.trans (LamX.ExtN.of S30)
  clear h1 h2 h3 s28 s29 s30 S29 S30 hn27 hm27 T27 E27 o10 o20 o30 dx d
  repeat walk_at "w"
  obtain ⟨dx, d, e⟩ := hn30.at_
  refine ⟨n, dx, _, rfl, e, by rfl, ?_⟩
  clear e
  repeat walk_at "w"
  refine ⟨3, rfl, ?_⟩
  repeat walk_at "w"
  refine ⟨_, hn30, on, by decide, by decide, fun o1 H31 o10 s31 h1 => ?_⟩
  repeat walk_at "w"
  refine d_terms h1 (fr_okA (by simp)) (T30.ext s31) fun t1 H32 t10 e32 T32 ht1 => ?_
  have ht1 := ht1.at
  rw [fr_neg.1] at ht1
  repeat walk_at "w"
  refine ⟨1, rfl, ?_⟩
  repeat walk_at "w"
  rename_i l1 G1 l10 g1 hl1 c1 G2 c10 g2 hc1 ls G5 ls0 g5 hls
  have R1 := g2.trans g5
  have R0 := g1.trans R1
  have hx : TermsAt G5 ls [(-1, 3, [("n" : Str)])] := ⟨_, hls, .cons ⟨c1, l1, rfl, CP.Same.to g5 hc1, CP.Same.to R1 hl1⟩ .nil⟩
  refine tms_eqX (ht1.ext (LamX.ExtN.of R0)) hx (by simp [lay_nm]) (by simp [lay_nm]) ⟨_, rfl, ?_⟩
  rw [decide_eq_true rfl]
  have X33 := (LamX.ExtN.of s31).trans (e32.trans (LamX.ExtN.of R0))
  have hn33 := hn30.ext X33
  have hm33 := hm30.ext X33
  have T33 := T32.ext R0
  have E33 := E30.trans X33
  clear hx ht1 hn30 hm30 T30 E30 X33 e32 T32 R0 R1 g1 g2 g5 hl1 hc1 hls l10 c10 ls0 t10 h1 o10 s31 dx d
  repeat walk_at "w"
  refine d_subO hn33 hn33 on on fun o1 H34 o10 s34 h1 => ?_
  repeat walk_at "w"
  obtain ⟨dx, d, e⟩ := h1.at_
  refine ⟨o1, dx, _, rfl, e, by rfl, ?_⟩
  clear e
  repeat walk_at "w"
  refine d_put h1 (hm33.mono s34) let_nm.1 (putB_ok fr_puts.2.2.2) fun o2 H35 s35 h2 => ?_
  repeat walk_at "w"
  refine d_subO (hn33.mono (s34.trans s35)) (hn33.mono (s34.trans s35)) on on fun o3 H36 o30 s36 h3 => ?_
  have S36 := s34.trans (s35.trans s36)
  refine d_eq (h2.mono s36) h3 ?_
  rw [fr_neg.2]
  exact q _ (E33.trans (LamX.ExtN.of S36)) (T33.ext S36)

theorem ok_law_fractions_right (T : Txt K mg) (TB : LamX.TabB base mg T.tc T.tP) : FnOk T.z.1 T.z.2 K mg base CX0 11 T.a_law_fractions_right T.fd_law_fractions_right [] (sp_law_fractions_right T) :=
  T.F_law_fractions_right.ok sc_law_fractions_right (len_law_fractions_right T) fun cdv A outer s H vs Q E hr h => ⟨t_law_fractions_right T.z.2 T, (pss_cons (ps_par (i := 0) (j := 1) rfl sc_law_fractions_right.nd rfl rfl (by decide) rfl rfl (pa_cons (pe_call (ok_letter T) (hr.mono (by decide)) (by rfl) T.m_letter T.F_letter.kp (b_letter T) .nil pass0 (pa_cons pe_str pa_nil)) (pa_cons (pe_call (ok_letter T) (hr.mono (by decide)) (by rfl) T.m_letter T.F_letter.kp (b_letter T) .nil pass0 (pa_cons pe_str pa_nil)) pa_nil)) (by rfl))
      (pss_cons (ps_set (i := 2) sc_law_fractions_right.nd rfl (Or.inl rfl) (pe_op (op_binO (op := .Add) rfl T.S_Form T.M_Form___add (ok_Form___add T) (hr.mono (by decide)) (b_Form___add T) pass0) (pe_op (op_binO (op := .Mult) rfl T.S_Form T.M_Form___mul (ok_Form___mul T) (hr.mono (by decide)) (b_Form___mul T) pass0) (pv 0) (pv 0)) (pe_meth (pv 1) T.c_Form T.M_Form_over (ok_Form_over T) (hr.mono (by decide)) (b_Form_over T) .nil pass0 (pa_cons pe_int pa_nil))))
      (pss_cons (ps_set (i := 3) sc_law_fractions_right.nd rfl (Or.inl rfl) (pe_meth (pv 2) T.c_Form T.M_Form_put (ok_Form_put T) (hr.mono (by decide)) (b_Form_put T) .nil pass0 (pa_cons pe_str (pa_cons (pe_meth (pv 1) T.c_Form T.M_Form_over (ok_Form_over T) (hr.mono (by decide)) (b_Form_over T) .nil pass0 (pa_cons pe_int pa_nil)) pa_nil))))
      (pss_cons (ps_if (PW.pt (pw_or (pt_cmpR (op_neX hr.units) (pe_meth0 (pv 3) T.c_Form T.M_Form_terms (ok_Form_terms T TB) (hr.mono (by decide)) (b_Form_terms T) .nil pass0) (pe_lst (pa_cons (pe_tup (pa_cons pe_int (pa_cons pe_int (pa_cons (pe_lst (pa_cons pe_str pa_nil)) pa_nil)))) (pa_cons (pe_tup (pa_cons pe_int (pa_cons pe_int (pa_cons (pe_lst (pa_cons pe_str (pa_cons pe_str pa_nil))) pa_nil)))) pa_nil))) (nomark _)) (pw_or1 (pt_cmpR (op_neX hr.units) (pe_meth0 (pv 3) T.c_Form T.M_Form_letters (ok_Form_letters T) (hr.mono (by decide)) (b_Form_letters T) .nil pass0) (pe_lst (pa_cons pe_str pa_nil)) (nomark _))))) (pss_one (ps_ret pe_bl)) pss_nil)
      (pss_cons (ps_if (pt_cmpR op_ne (pe_meth0 (pv 3) T.c_Form T.M_Form_degree (ok_Form_degree T) (hr.mono (by decide)) (b_Form_degree T) .nil pass0) pe_int (nomark _)) (pss_one (ps_ret pe_bl)) pss_nil)
      (pss_cons (ps_if (PW.pt (pw_or (pt_cmpR (op_neO T.O_Form (ok_Form___eq T) (hr.mono (by decide)) (b_Form___eq T) pass0) (pv 3) (pe_op (op_binO (op := .Add) rfl T.S_Form T.M_Form___add (ok_Form___add T) (hr.mono (by decide)) (b_Form___add T) pass0) (pe_meth (pe_op (op_binO (op := .Mult) rfl T.S_Form T.M_Form___mul (ok_Form___mul T) (hr.mono (by decide)) (b_Form___mul T) pass0) (pv 1) (pv 1)) T.c_Form T.M_Form_over (ok_Form_over T) (hr.mono (by decide)) (b_Form_over T) .nil pass0 (pa_cons pe_int pa_nil)) (pe_meth (pv 1) T.c_Form T.M_Form_over (ok_Form_over T) (hr.mono (by decide)) (b_Form_over T) .nil pass0 (pa_cons pe_int pa_nil))) (nomark _)) (pw_or1 (pt_cmpR (op_neX hr.units) (pe_meth0 (pv 2) T.c_Form T.M_Form_terms (ok_Form_terms T TB) (hr.mono (by decide)) (b_Form_terms T) .nil pass0) (pe_lst (pa_cons (pe_tup (pa_cons pe_int (pa_cons pe_int (pa_cons (pe_lst (pa_cons pe_str pa_nil)) pa_nil)))) (pa_cons (pe_tup (pa_cons pe_int (pa_cons pe_int (pa_cons (pe_lst (pa_cons pe_str (pa_cons pe_str pa_nil))) pa_nil)))) pa_nil))) (nomark _))))) (pss_one (ps_ret pe_bl)) pss_nil)
      (pss_cons (ps_if (PW.pt (pw_or (pt_cmpR (op_neX hr.units) (pe_meth0 (pe_meth (pe_op (op_binO (op := .Sub) rfl T.S_Form T.M_Form___sub (ok_Form___sub T) (hr.mono (by decide)) (b_Form___sub T) pass0) (pv 0) (pv 1)) T.c_Form T.M_Form_put (ok_Form_put T) (hr.mono (by decide)) (b_Form_put T) .nil pass0 (pa_cons pe_str (pa_cons (pv 1) pa_nil))) T.c_Form T.M_Form_terms (ok_Form_terms T TB) (hr.mono (by decide)) (b_Form_terms T) .nil pass0) (pe_lst pa_nil) (nomark _)) (pw_or1 (pt_cmpR (op_neO T.O_Form (ok_Form___eq T) (hr.mono (by decide)) (b_Form___eq T) pass0) (pe_meth (pe_meth (pv 0) T.c_Form T.M_Form_over (ok_Form_over T) (hr.mono (by decide)) (b_Form_over T) .nil pass0 (pa_cons pe_int pa_nil)) T.c_Form T.M_Form_put (ok_Form_put T) (hr.mono (by decide)) (b_Form_put T) .nil pass0 (pa_cons pe_str (pa_cons (pe_op (op_binI (op := .Mult) rfl rfl T.S_Form T.M_Form___mul T.Z_Form___mul (ok_Form___mul T) (hr.mono (by decide)) (b_Form___mul T) pass0) (pv 1) pe_int) pa_nil))) (pv 1) (nomark _))))) (pss_one (ps_ret pe_bl)) pss_nil)
      (pss_cons (ps_set (i := 4) sc_law_fractions_right.nd rfl (Or.inl rfl) (pe_op op_powW pe_int pe_int))
      (pss_cons (ps_if (PW.pt (pw_or (pt_cmpR (op_neX hr.units) (pe_meth0 (pe_meth (pv 0) T.c_Form T.M_Form_over (ok_Form_over T) (hr.mono (by decide)) (b_Form_over T) .nil pass0 (pa_cons (pv 4) pa_nil)) T.c_Form T.M_Form_terms (ok_Form_terms T TB) (hr.mono (by decide)) (b_Form_terms T) .nil pass0) (pe_lst (pa_cons (pe_tup (pa_cons pe_int (pa_cons (pv 4) (pa_cons (pe_lst (pa_cons pe_str pa_nil)) pa_nil)))) pa_nil)) (nomark _)) (pw_or1 (pt_cmpR (op_neO T.O_Form (ok_Form___eq T) (hr.mono (by decide)) (b_Form___eq T) pass0) (pe_meth (pe_op (op_binI (op := .Mult) rfl rfl T.S_Form T.M_Form___mul T.Z_Form___mul (ok_Form___mul T) (hr.mono (by decide)) (b_Form___mul T) pass0) (pv 0) (pv 4)) T.c_Form T.M_Form_over (ok_Form_over T) (hr.mono (by decide)) (b_Form_over T) .nil pass0 (pa_cons (pe_op op_powW pe_int pe_int) pa_nil)) (pe_op (op_binI (op := .Mult) rfl rfl T.S_Form T.M_Form___mul T.Z_Form___mul (ok_Form___mul T) (hr.mono (by decide)) (b_Form___mul T) pass0) (pv 0) pe_int) (nomark _))))) (pss_one (ps_ret pe_bl)) pss_nil)
      (pss_one (ps_ret (pe_and (pe_cmpR (op_eqX hr.units) (pe_meth0 (pe_meth (pv 0) T.c_Form T.M_Form_over (ok_Form_over T) (hr.mono (by decide)) (b_Form_over T) .nil pass0 (pa_cons (pe_un un_neg pe_int) pa_nil)) T.c_Form T.M_Form_terms (ok_Form_terms T TB) (hr.mono (by decide)) (b_Form_terms T) .nil pass0) (pe_lst (pa_cons (pe_tup (pa_cons (pe_un un_neg pe_int) (pa_cons pe_int (pa_cons (pe_lst (pa_cons pe_str pa_nil)) pa_nil)))) pa_nil)) (nomark _)) (pe_one (pe_cmpR (op_eqO T.O_Form (ok_Form___eq T) (hr.mono (by decide)) (b_Form___eq T) pass0) (pe_meth (pe_op (op_binO (op := .Sub) rfl T.S_Form T.M_Form___sub (ok_Form___sub T) (hr.mono (by decide)) (b_Form___sub T) pass0) (pv 0) (pv 0)) T.c_Form T.M_Form_put (ok_Form_put T) (hr.mono (by decide)) (b_Form_put T) .nil pass0 (pa_cons pe_str (pa_cons (pv 1) pa_nil))) (pe_op (op_binO (op := .Sub) rfl T.S_Form T.M_Form___sub (ok_Form___sub T) (hr.mono (by decide)) (b_Form___sub T) pass0) (pv 0) (pv 0)) (nomark _))))))))))))))), rd_law_fractions_right T vs H Q E h⟩
end
end CP

namespace CP
open PySem L2
section
variable {P : Program} {w : World} {K : PySem.W.Frag} {mg : Str → Option Value} {base : Heap}
theorem SqL.ext {H H' : Hp} {a : Addr} {xs : List V} (h : SqL K H a xs) (e : LamX.ExtN H H') : SqL K H' a xs := by
  rcases h with (h | ⟨o, h⟩) | h
  · exact .inl (.inl (e _ _ h fun _ z => by cases z))
  · exact .inl (.inr ⟨o, e _ _ h fun _ z => by cases z⟩)
  · exact .inr h
def sp_law (T : Txt K mg) : Sp := fun vs H Q _ => ∃ (a : Addr) (ns : List Int), vs = [.ref a] ∧ SqL K H a (ns.map V.int) ∧ ns.length ≤ 63 ∧ LamX.Tabs (tabF T.tP) H ∧ ∀ H', Q (.bl true) H'
def sp_top (K : PySem.W.Frag) (P : Addr) : Sp := fun vs H Q _ => ∃ (a : Addr) (ns : List Int), vs = [.ref a] ∧ SqL K H a (ns.map V.int) ∧ ns.length ≤ 63 ∧ H P = some (.tbl #[]) ∧ ∀ H', Q (.bl true) H'
theorem sp_law_top (T : Txt K mg) (vs : List V) (H : Hp) (Q : VK) (E : XK) (z : sp_top K T.tP vs H Q E) : sp_law T vs H Q E := by
  obtain ⟨a, ns, e, sq, few, h, q⟩ := z
  exact ⟨a, ns, e, sq, few, fun p hp => by
    rw [List.mem_singleton.mp hp]
    exact LamX.TabS.nil h, q⟩
@[reducible] def t_law_0 (w : World) (T : Txt K mg) : TS := tIfS (tNot (tB (tCall (sp_law_form_right T) [] E0 (tCons (tVar 1) (tCons (tVar 8) (tCons (tVar 2) (tNil))))))) (tRet (tC (.bl false))) (tNext)
@[reducible] def t_law_1 (w : World) (T : Txt K mg) : TS := tIfS (tOr (tTest (tOp (rNeX K) (tOp (rEqO T.a_Form (sp_Form___eq T) E0) (tVar 5) (tVar 6)) (tOp (rEqX K) (tMeth T.a_Form "terms" (sp_Form_terms T) [] E0 (tVar 5) tNil) (tMeth T.a_Form "terms" (sp_Form_terms T) [] E0 (tVar 6) tNil)))) (tTest (tOp (rEqX K) (tOp (rNeO T.a_Form (sp_Form___eq T) E0) (tVar 5) (tVar 6)) (tOp (rEqO T.a_Form (sp_Form___eq T) E0) (tVar 5) (tVar 6))))) (tRet (tC (.bl false))) (tNext)
@[reducible] def t_law_2 (w : World) (T : Txt K mg) : TS := tSeq (tIfS (tTest (tOp (rNeX K) (tMeth T.a_Form "terms" (sp_Form_terms T) [] E0 (tOp (rBinO T.a_Form (sp_Form___sub T) E0) (tVar 5) (tVar 5)) tNil) (tLst (tNil)))) (tRet (tC (.bl false))) (tNext)) (t_law_1 w T)
@[reducible] def t_law_3 (w : World) (T : Txt K mg) : TS := tSeq (tIfS (tTest (tOp (rNeO T.a_Form (sp_Form___eq T) E0) (tOp (rBinO T.a_Form (sp_Form___mul T) E0) (tVar 9) (tVar 10)) (tOp (rBinO T.a_Form (sp_Form___sub T) E0) (tOp (rBinO T.a_Form (sp_Form___mul T) E0) (tVar 5) (tVar 5)) (tOp (rBinO T.a_Form (sp_Form___mul T) E0) (tVar 6) (tVar 6))))) (tRet (tC (.bl false))) (tNext)) (t_law_2 w T)
@[reducible] def t_law_4 (w : World) (T : Txt K mg) : TS := tSeq (tPar 9 10 (tCons (tOp (rBinO T.a_Form (sp_Form___sub T) E0) (tVar 5) (tVar 6)) (tCons (tOp (rBinO T.a_Form (sp_Form___add T) E0) (tVar 5) (tVar 6)) (tNil)))) (t_law_3 w T)
@[reducible] def t_law_5 (w : World) (T : Txt K mg) : TS := tSeq (tIfS (tNot (tB (tCall (sp_law_wholes_right T) [] E0 (tCons (tVar 5) (tNil))))) (tRet (tC (.bl false))) (tNext)) (t_law_4 w T)
@[reducible] def t_law_6 (w : World) (T : Txt K mg) : TS := tSeq (tIfS (tOr (tTest (tOp (rNeO T.a_Form (sp_Form___eq T) E0) (tOp (rBinO T.a_Form (sp_Form___add T) E0) (tVar 5) (tVar 6)) (tOp (rBinO T.a_Form (sp_Form___add T) E0) (tVar 6) (tVar 5)))) (tTest (tOp (rNeO T.a_Form (sp_Form___eq T) E0) (tOp (rBinO T.a_Form (sp_Form___mul T) E0) (tVar 5) (tOp (rBinO T.a_Form (sp_Form___add T) E0) (tVar 6) (tVar 7))) (tOp (rBinO T.a_Form (sp_Form___add T) E0) (tOp (rBinO T.a_Form (sp_Form___mul T) E0) (tVar 5) (tVar 6)) (tOp (rBinO T.a_Form (sp_Form___mul T) E0) (tVar 5) (tVar 7)))))) (tRet (tC (.bl false))) (tNext)) (t_law_5 w T)
@[reducible] def t_law_7 (w : World) (T : Txt K mg) : TS := tSeq (tIfS (tNot (tB (tCall (sp_law_put_right T) [] E0 (tCons (tVar 1) (tCons (tVar 3) (tCons (tVar 4) (tCons (tVar 2) (tNil)))))))) (tRet (tC (.bl false))) (tNext)) (t_law_6 w T)
@[reducible] def t_law_8 (w : World) (T : Txt K mg) : TS := tSeq (tFor (iTup K (tTup (tCons (tVar 5) (tCons (tVar 6) (tCons (tOp (rBinO T.a_Form (sp_Form___add T) E0) (tVar 5) (tVar 6)) (tCons (tOp (rBinO T.a_Form (sp_Form___mul T) E0) (tVar 5) (tVar 6)) (tCons (tOp (rBinO T.a_Form (sp_Form___sub T) E0) (tVar 5) (tVar 5)) (tCons (tOp (rBinO T.a_Form (sp_Form___sub T) E0) (tMeth T.a_Form "over" (sp_Form_over T) [] E0 (tVar 5) (tCons (tUn oNeg (tC (.int 3))) (tNil))) (tVar 7)) (tNil))))))))) (gName 8) (t_law_0 w T)) (t_law_7 w T)
@[reducible] def t_law_9 (w : World) (T : Txt K mg) : TS := tSeq (tAsg (tCall (sp_law_form T) [] E0 (tCons (tCall (sp_law_tree T) [] E0 (tCons (tVar 1) (tCons (tC (.int 1)) (tCons (tVar 2) (tNil))))) (tNil))) (gName 7)) (t_law_8 w T)
@[reducible] def t_law_10 (w : World) (T : Txt K mg) : TS := tSeq (tPar 5 6 (tCons (tCall (sp_law_form T) [] E0 (tCons (tVar 3) (tNil))) (tCons (tCall (sp_law_form T) [] E0 (tCons (tVar 4) (tNil))) (tNil)))) (t_law_9 w T)
@[reducible] def t_law_11 (w : World) (T : Txt K mg) : TS := tSeq (tPar 3 4 (tCons (tCall (sp_law_tree T) [] E0 (tCons (tVar 1) (tCons (tC (.int 2)) (tCons (tVar 2) (tNil))))) (tCons (tCall (sp_law_tree T) [] E0 (tCons (tVar 1) (tCons (tC (.int 2)) (tCons (tVar 2) (tNil))))) (tNil)))) (t_law_10 w T)
@[reducible] def t_law_12 (w : World) (T : Txt K mg) : TS := tSeq (tAsg (tCall (sp_law_names T) [] E0 (tCons (tVar 1) (tCons (tOp oAdd (tC (.int 1)) (tCall (sp_law_draw T) [] E0 (tCons (tVar 1) (tCons (tC (.int 3)) (tNil))))) (tNil)))) (gName 2)) (t_law_11 w T)
@[reducible] def t_law_13 (w : World) (T : Txt K mg) : TS := tSeq (tFor (iList K (tCall (sp_law_purses T) [] E0 (tCons (tVar 0) (tCons (tC (.int 16)) (tNil))))) (gName 1) (t_law_12 w T)) (tRet (tC (.bl true)))
@[reducible] def t_law_14 (w : World) (T : Txt K mg) : TS := tSeq (tIfS (tNot (tB (tCall (sp_law_fractions_right T) [] E0 tNil))) (tRet (tC (.bl false))) (tNext)) (t_law_13 w T)
def t_law (w : World) (T : Txt K mg) : TS := tSeq (tIfS (tNot (tB (tCall (sp_law_put_once_right T) [] E0 tNil))) (tRet (tC (.bl false))) (tNext)) (t_law_14 w T)
theorem len_law (T : Txt K mg) : ∀ (vs : List V) (H : Hp) (Q : VK) (E : XK), sp_law T vs H Q E → vs.length = (["_law_script"] : List Str).length := by
  rintro vs H Q E ⟨a, ns, rfl, h⟩
  rfl
theorem rd_law (T : Txt K mg) (vs : List V) (H : Hp) (Q : VK) (E : XK) (h : sp_law T vs H Q E) : t_law w T { nx := fun _ H' => Q .non H', rt := Q } (start ["_law_script", "_law_purse_here", "_law_names_here", "_law_one", "_law_other", "_law_first", "_law_second", "_law_third", "_law_form_here", "_law_less", "_law_more"] vs) H := by
  obtain ⟨a, ns, rfl, ha, hn, hT, q⟩ := h
  have sz : sizeLine = 16777216 := rfl
  unfold t_law
  walk_at "st"
  repeat walk_at "w"
  refine ⟨rfl, hT, fun H1 e1 T1 => ?_⟩
  repeat walk_at "w"
  refine ⟨rfl, T1, fun H2 e2 T2 => ?_⟩
  have ha2 := SqL.ext (SqL.ext ha e1) e2
  clear ha e1 e2 T1 hT
  repeat walk_at "w"
  refine ⟨ns, ha2, hn, by decide, by decide, fun ls H3 ps ls0 s3 hls nd pp lp => ?_⟩
  refine ⟨ls, rfl, ⟨_, .of hls⟩, for_list (K := K) (a := ls) (xs := ps.map V.ref) (fun i σ H' => H' ls = some (.lst (ps.map V.ref)) ∧ LamX.Tabs (tabF T.tP) H' ∧ (∀ j q, ps[j]? = some q → i ≤ j → Pu H' q 0) ∧ ∃ x1 x2 x3 x4 x5 x6 x7 x8 x9 x10, σ = [some (.ref a), x1, x2, x3, x4, x5, x6, x7, x8, x9, x10]) ⟨hls, T2.ext s3, fun j q hj _ => (pp q (List.mem_of_getElem? hj)).2.2, _, _, _, _, _, _, _, _, _, _, rfl⟩ (fun _ _ _ _ w => .of w.1) ?_ ?_⟩
  · rintro i x σ H5 hx ⟨hl5, T5, hp5, x1, x2, x3, x4, x5, x6, x7, x8, x9, x10, rfl⟩
    obtain ⟨p, hp, rfl⟩ : ∃ p, ps[i]? = some p ∧ x = .ref p := by
      rw [List.getElem?_map] at hx
      obtain ⟨p, hp, e⟩ := Option.map_eq_some_iff.mp hx
      exact ⟨p, hp, e.symm⟩
    have pu := hp5 i p hp (Nat.le_refl _)
    have lp2 : ls ≠ p := (pp p (List.mem_of_getElem? hp)).2.1.symm
    have rest : ∀ {H'}, SBN p H5 H' → H' ls = some (.lst (ps.map V.ref)) ∧ ∀ j q, ps[j]? = some q → i + 1 ≤ j → Pu H' q 0 := fun {H'} b => ⟨b.lst lp2 hl5, fun j q hj k => by
      have nq : q ≠ p := fun e => by
        obtain ⟨h1, g1⟩ := List.getElem?_eq_some_iff.mp hj
        obtain ⟨h2, g2⟩ := List.getElem?_eq_some_iff.mp hp
        have := (List.pairwise_iff_getElem.mp nd) i j h2 h1 (by omega)
        exact this (by rw [g2, g1, e])
      obtain ⟨x, y, w, i, e, r⟩ := hp5 j q hj (by omega)
      exact ⟨x, y, w, i, b.lst nq e, r⟩⟩
    clear hp5 hl5 T2 ha2 s3 hls
    repeat walk_at "w"
    refine ⟨_, pu, by decide, by decide, by decide, fun d2 H6 d20 d21 b6 pu6 => ?_⟩
    have T6 := tabs_pu T5 pu b6
    repeat walk_at "w"
    refine ⟨_, pu6, by decide, by omega, by omega, fun nq l H7 lnd lets len n0 b7 hn7 pu7 => ?_⟩
    have nqp : nq ≠ p := pu6.ne n0
    have T7 := tabs_pu T6 pu6 b7
    have S7 : SBN p H5 H7 := SBN.sb (SB.trans' b6 b7)
    have lt : Lts l := ⟨lnd, by omega, lets⟩
    have l1 : 1 ≤ l.length := by omega
    clear b6 b7 pu6 n0 pu T5 T6
    repeat walk_at "w"
    refine ⟨2, rfl, by decide, by decide, _, l, pu7, by omega, hn7, nqp, by omega, lt.lets, fun v1 t1 H8 ht1 k1 s61 b8 pu8 => ?_⟩
    have T8 := tabs_pu T7 pu7 b8
    have hn8 := b8 _ _ nqp hn7
    repeat walk_at "w"
    refine ⟨2, rfl, by decide, by decide, _, l, pu8, by omega, hn8, nqp, by omega, lt.lets, fun v2 t2 H9 ht2 k2 s62 b9 pu9 => ?_⟩
    have T9 := tabs_pu T8 pu8 b9
    have hn9 := b9 _ _ nqp hn8
    have ht19 := ht1.stay ((SBN.sb b9).stay pu8)
    have S9 := S7.trans ((SBN.sb b8).trans (SBN.sb b9))
    clear T7 T8 hn7 hn8 pu7 pu8 ht1 b8 b9 S7
    repeat walk_at "w"
    refine ⟨t1, l, ht19, (k1.up (Nat.le_refl _)).1, by decide, lt.lets, fun a1 H10 a10 s10 h1 => ?_⟩
    repeat walk_at "w"
    refine ⟨t2, l, ht2.stay (stay_same s10), (k2.up (Nat.le_refl _)).1, by decide, lt.lets, fun a2 H11 a20 s11 h2 => ?_⟩
    have s911 := s10.trans s11
    have h1 := h1.mono s11
    have pu11 := pu9.mono s911
    have T11 := T9.ext s911
    have hn11 := CP.Same.to s911 hn9
    have ht1 := ht19.stay (stay_same s911)
    have ht2 := ht2.stay (stay_same s911)
    have S11 := S9.trans (SBN.same s911)
    clear T9 hn9 pu9 ht19 S9 s911 s10 s11 a10 a20
    repeat walk_at "w"
    refine ⟨1, rfl, by decide, by decide, _, l, pu11, by omega, hn11, nqp, by omega, lt.lets, fun v3 t3 H12 ht3 k3 s63 b12 pu12 => ?_⟩
    repeat walk_at "w"
    refine ⟨t3, l, ht3, ((k3.up (Nat.le_refl _)).1.up (Nat.le_refl _)).1, by decide, lt.lets, fun a3 H13 a30 s13 h3 => ?_⟩
    have R12 : SBN p H11 H12 := SBN.sb b12
    have R13 := R12.trans (SBN.same s13)
    have h1 := R13.form pu11 h1
    have h2 := R13.form pu11 h2
    have ht1 := ht1.stay (R13.stay pu11)
    have ht2 := ht2.stay (R13.stay pu11)
    have T13 := (tabs_pu T11 pu11 b12).ext s13
    have hn13 := R13.lst nqp hn11
    have S13 := S11.trans R13
    have pu13 := pu12.mono s13
    have g1 := tr_gd k1 (Nat.le_refl 2)
    have g2 := tr_gd k2 (Nat.le_refl 2)
    have g3 := tr_gd k3 (by decide)
    have f1 := g1.ok lt.lets (by decide) (by decide) (by decide) (by decide)
    have f2 := g2.ok lt.lets (by decide) (by decide) (by decide) (by decide)
    have f3 := g3.ok lt.lets (by decide) (by decide) (by decide) (by decide)
    clear T11 hn11 pu11 pu12 R12 R13 S11 b12 s13 ht3 a30
    generalize formM t3 = F3 at *
    have gs := g1.add g2 (d := 4) (b := 60) (by decide) (by decide) (by decide) (by decide)
    have gm := g1.mul g2
    have gd := g1.add g1.neg (d := 4) (b := 60) (by decide) (by decide) (by decide) (by decide)
    have go := g1.over (n := -3) (k := 2) (by decide) (by decide)
    have gl := go.add g3.neg (d := 4) (b := 60) (by decide) (by decide) (by decide) (by decide)
    repeat walk_at "w"
    refine d_addO h1 h2 f1 f2 fun o1 H14 o10 s14 q1 => ?_
    repeat walk_at "w"
    refine d_mulO (h1.mono s14) (h2.mono s14) f1 f2 fun o2 H15 o20 s15 q2 => ?_
    have s1315 := s14.trans s15
    repeat walk_at "w"
    refine d_subO (h1.mono s1315) (h1.mono s1315) f1 f1 fun o3 H16 o30 s16 q3 => ?_
    have s1316 := s1315.trans s16
    repeat walk_at "w"
    obtain ⟨dx, d, eo⟩ := (h1.mono s1316).at_
    refine ⟨a1, dx, _, rfl, eo, by rfl, ?_⟩
    clear eo
    repeat walk_at "w"
    refine ⟨3, rfl, ?_⟩
    repeat walk_at "w"
    refine ⟨_, h1.mono s1316, f1, by decide, by decide, fun o4 H17 o40 s17 q4 => ?_⟩
    have s1317 := s1316.trans s17
    repeat walk_at "w"
    refine d_subO q4 (h3.mono s1317) (go.ok lt.lets (by decide) (by decide) (by decide) (by decide)) f3 fun o5 H18 o50 s18 q5 => ?_
    repeat walk_at "w"
    rename_i tp H19 tp0 s19 htp
    have r19 := s18.trans s19
    have R16 := s16.trans (s17.trans r19)
    have R15 := s15.trans R16
    have R13 := s14.trans R15
    have each : ∀ (i : Nat) (x : V), ([.ref a1, .ref a2, .ref o1, .ref o2, .ref o3, .ref o5] : List V)[i]? = some x → ∃ o f, x = .ref o ∧ FormZ T.z T.a_Form H19 o f ∧ FrOk l f := fun i x hx => by
      match i, hx with
      | 0, hx => exact ⟨a1, _, (Option.some.inj hx).symm, h1.mono R13, gf_fr lt g1 (by decide) (by decide) (by decide) (by decide) (by decide)⟩
      | 1, hx => exact ⟨a2, _, (Option.some.inj hx).symm, h2.mono R13, gf_fr lt g2 (by decide) (by decide) (by decide) (by decide) (by decide)⟩
      | 2, hx => exact ⟨o1, _, (Option.some.inj hx).symm, q1.mono R15, gf_fr lt gs (by decide) (by decide) (by decide) (by decide) (by decide)⟩
      | 3, hx => exact ⟨o2, _, (Option.some.inj hx).symm, q2.mono R16, gf_fr lt gm (by decide) (by decide) (by decide) (by decide) (by decide)⟩
      | 4, hx => exact ⟨o3, _, (Option.some.inj hx).symm, q3.mono (s17.trans r19), gf_fr lt gd (by decide) (by decide) (by decide) (by decide) (by decide)⟩
      | 5, hx => exact ⟨o5, _, (Option.some.inj hx).symm, q5.mono s19, gf_fr lt gl (by decide) (by decide) (by decide) (by decide) (by decide)⟩
      | n + 6, hx => cases hx
    have h1 := h1.mono R13
    have h2 := h2.mono R13
    have h3 := h3.mono R13
    have ht1 := ht1.stay (stay_same R13)
    have ht2 := ht2.stay (stay_same R13)
    have T19 := T13.ext R13
    have hn19 := CP.Same.to R13 hn13
    have pu19 := pu13.mono R13
    have S19 := S13.trans (SBN.same R13)
    have tpp : tp ≠ p := fun z => by
      obtain ⟨x, y, w, i, e, _⟩ := pu19
      rw [z, e] at htp
      cases htp
    clear q1 q2 q3 q4 q5 R13 R15 R16 r19 s14 s15 s16 s17 s18 s19 s1315 s1316 s1317 o10 o20 o30 o40 o50 tp0 T13 hn13 pu13 S13 dx d
    refine ⟨tp, rfl, ⟨_, .of htp⟩, for_tup (K := K) (a := tp) (xs := [.ref a1, .ref a2, .ref o1, .ref o2, .ref o3, .ref o5]) (fun i σ H' => SBN p H19 H' ∧ Pu H' p (0 + 60 + 5000 + 1140 + 1140 + 540 + 6000 * i) ∧ LamX.Tabs (tabF T.tP) H' ∧ ∃ x8, σ = [some (.ref a), some (.ref p), some (.ref nq), some v1, some v2, some (.ref a1), some (.ref a2), some (.ref a3), x8, x9, x10]) ⟨SBN.refl, pu19.up (by omega), T19, _, rfl⟩ (fun i σ H' _ w => .of (w.1 _ _ tpp htp fun _ z => by cases z)) ?_ ?_⟩
    · rintro i x σ H20 hx ⟨s20, pu20, T20, x8, rfl⟩
      obtain ⟨o, f, rfl, hf, fr⟩ := each i x hx
      have i6 : i < 6 := (List.getElem?_eq_some_iff.mp hx).1
      repeat walk_at "w"
      refine ⟨_, f, l, pu20, by omega, s20.form pu19 hf, fr, s20.lst nqp hn19, nqp, T20, fun H21 s21 pu21 T21 => ?_⟩
      repeat walk_at "w"
      exact ⟨s20.trans s21, pu21.up (by omega), T21, _, rfl⟩
    rintro σ H20 ⟨s20, pu20, T20, x8, rfl⟩
    have h1 := s20.form pu19 h1
    have h2 := s20.form pu19 h2
    have h3 := s20.form pu19 h3
    have ht1 := ht1.stay (s20.stay pu19)
    have ht2 := ht2.stay (s20.stay pu19)
    have hn20 := s20.lst nqp hn19
    have S20 := S19.trans s20
    have pu20 : Pu H20 p 50000 := pu20.up (by show _ + 6000 * ((6 : Nat) : Int) ≤ _; omega)
    clear s20 pu19 S19 hn19 T19 each htp tpp
    repeat walk_at "w"
    refine ⟨_, t1, t2, l, pu20, by decide, ht1, ht2, k1, k2, s62, lt, l1, hn20, nqp, T20, fun H21 s21 pu21 T21 => ?_⟩
    have h1 := s21.form pu20 h1
    have h2 := s21.form pu20 h2
    have h3 := s21.form pu20 h3
    have S21 := S20.trans s21
    clear s21 pu20 S20 hn20 T20 ht1 ht2
    repeat walk_at "w"
    refine d_addO h1 h2 f1 f2 fun o1 H22 o10 s22 q1 => ?_
    repeat walk_at "w"
    refine d_addO (h2.mono s22) (h1.mono s22) f2 f1 fun o2 H23 o20 s23 q2 => ?_
    refine d_ne (q1.mono s23) q2 ⟨_, rfl, ?_⟩
    rw [lw_comm lt.nd g1 g2]
    have R := s22.trans s23
    have h1 := h1.mono R
    have h2 := h2.mono R
    have h3 := h3.mono R
    have T23 := T21.ext R
    have S23 := S21.trans (SBN.same R)
    clear q1 q2 s22 s23 R o10 o20 T21 S21
    have g23 := g2.add g3 (d := 4) (b := 60) (by decide) (by decide) (by decide) (by decide)
    have gm3 := g1.mul g3
    repeat walk_at "w"
    refine d_addO h2 h3 f2 f3 fun o1 H24 o10 s24 q1 => ?_
    repeat walk_at "w"
    refine d_mulO (h1.mono s24) q1 f1 (g23.ok lt.lets (by decide) (by decide) (by decide) (by decide)) fun o2 H25 o20 s25 q2 => ?_
    repeat walk_at "w"
    have s2325 := s24.trans s25
    refine d_mulO (h1.mono s2325) (h2.mono s2325) f1 f2 fun o3 H26 o30 s26 q3 => ?_
    repeat walk_at "w"
    have s2326 := s2325.trans s26
    refine d_mulO (h1.mono s2326) (h3.mono s2326) f1 f3 fun o4 H27 o40 s27 q4 => ?_
    repeat walk_at "w"
    refine d_addO (q3.mono s27) q4 (gm.ok lt.lets (by decide) (by decide) (by decide) (by decide)) (gm3.ok lt.lets (by decide) (by decide) (by decide) (by decide)) fun o5 H28 o50 s28 q5 => ?_
    have R := s2326.trans (s27.trans s28)
    refine d_ne (q2.mono (s26.trans (s27.trans s28))) q5 ⟨_, rfl, ?_⟩
    rw [lw_dist lt.nd g1 g2 g3]
    have h1 := h1.mono R
    have h2 := h2.mono R
    have T28 := T23.ext R
    have S28 := S23.trans (SBN.same R)
    clear q1 q2 q3 q4 q5 s24 s25 s26 s27 s28 s2325 s2326 R o10 o20 o30 o40 o50 T23 S23 h3
    repeat walk_at "w"
    refine ⟨_, l, h1, g1, lt.nd, lt.lets, T28, fun H29 e29 T29 => ?_⟩
    have h1 := h1.ext e29
    have h2 := h2.ext e29
    have S29 := S28.trans (SBN.ext e29)
    clear e29 S28 T28
    have gn := g1.add g2.neg (d := 4) (b := 60) (by decide) (by decide) (by decide) (by decide)
    have m11 := g1.mul g1
    have m22 := g2.mul g2
    have fs := gs.ok lt.lets (by decide) (by decide) (by decide) (by decide)
    have fn := gn.ok lt.lets (by decide) (by decide) (by decide) (by decide)
    repeat walk_at "w"
    refine d_subO h1 h2 f1 f2 fun le H30 le0 s30 hle => ?_
    repeat walk_at "w"
    refine d_addO (h1.mono s30) (h2.mono s30) f1 f2 fun mo H31 mo0 s31 hmo => ?_
    have R := s30.trans s31
    have h1 := h1.mono R
    have h2 := h2.mono R
    have hle := hle.mono s31
    have T31 := T29.ext R
    have S31 := S29.trans (SBN.same R)
    clear s30 s31 R T29 S29 le0 mo0
    repeat walk_at "w"
    refine d_mulO hle hmo fn fs fun o1 H32 o10 s32 q1 => ?_
    repeat walk_at "w"
    refine d_mulO (h1.mono s32) (h1.mono s32) f1 f1 fun o2 H33 o20 s33 q2 => ?_
    repeat walk_at "w"
    have s3133 := s32.trans s33
    refine d_mulO (h2.mono s3133) (h2.mono s3133) f2 f2 fun o3 H34 o30 s34 q3 => ?_
    repeat walk_at "w"
    refine d_subO (q2.mono s34) q3 (m11.ok lt.lets (by decide) (by decide) (by decide) (by decide)) (m22.ok lt.lets (by decide) (by decide) (by decide) (by decide)) fun o4 H35 o40 s35 q4 => ?_
    have R := s3133.trans (s34.trans s35)
    refine d_ne (q1.mono (s33.trans (s34.trans s35))) q4 ⟨_, rfl, ?_⟩
    rw [lw_sq lt.nd g1 g2]
    have h1 := h1.mono R
    have h2 := h2.mono R
    have T35 := T31.ext R
    have S35 := S31.trans (SBN.same R)
    clear q1 q2 q3 q4 s32 s33 s34 s35 s3133 R T31 S31 o10 o20 o30 o40 hle hmo
    repeat walk_at "w"
    refine d_subO h1 h1 f1 f1 fun o1 H36 o10 s36 q1 => ?_
    refine d_terms q1 (gd.ok lt.lets (by decide) (by decide) (by decide) (by decide)) (T35.ext s36) fun y1 H37 y10 e37 T37 hy1 => ?_
    have hy1 := hy1.at
    rw [lw_none lt.nd g1] at hy1
    repeat walk_at "w"
    rename_i em H38 em0 s38 hem
    have hx : TermsAt H38 em [] := ⟨[], hem, .nil⟩
    refine tms_neX (hy1.ext (LamX.ExtN.of s38)) hx (by simp) (by simp) ⟨_, rfl, ?_⟩
    rw [decide_eq_true rfl]
    have R := (LamX.ExtN.of s36).trans (e37.trans (LamX.ExtN.of s38))
    have h1 := h1.ext R
    have h2 := h2.ext R
    have T38 := T37.ext s38
    have S38 := S35.trans (SBN.ext R)
    clear q1 hy1 hx hem em0 s36 e37 s38 R T35 T37 S35 o10 y10
    repeat walk_at "w"
    refine d_eq h1 h2 ?_
    repeat walk_at "w"
    refine d_terms h1 f1 T38 fun y1 H39 y10 e39 T39 hy1 => ?_
    repeat walk_at "w"
    refine d_terms (h2.ext e39) f2 T39 fun y2 H40 y20 e40 T40 hy2 => ?_
    refine tms_eqX (hy1.at.ext e40) hy2.at (tms_lets f1) (tms_lets f2) ?_
    refine r_neXB ⟨_, rfl, ?_⟩
    rw [eq_is lt.nd g1.fx g2.fx f1 f2, bne_self_eq_false]
    have R := e39.trans e40
    have h1 := h1.ext R
    have h2 := h2.ext R
    have S40 := S38.trans (SBN.ext R)
    repeat walk_at "w"
    refine d_ne h1 h2 ?_
    repeat walk_at "w"
    refine d_eq h1 h2 ?_
    refine r_eqXB ⟨_, rfl, ?_⟩
    rw [show ((!eqM (formM t1) (formM t2)) == eqM (formM t1) (formM t2)) = false by cases eqM (formM t1) (formM t2) <;> rfl]
    repeat walk_at "w"
    obtain ⟨r1, r2⟩ := rest S40
    exact ⟨r1, T40, r2, _, _, _, _, _, _, _, _, _, _, rfl⟩
  rintro σ H5 ⟨hl5, T5, hp5, x1, x2, x3, x4, x5, x6, x7, x8, x9, x10, rfl⟩
  repeat walk_at "w"
  exact q _

theorem ok_law (T : Txt K mg) (TB : LamX.TabB base mg T.tc T.tP) : FnG T.z.1 T.z.2 K mg base CX0 14 T.a_law T.fd_law ["_law_script"] (sp_law T) :=
  Fun.okG T.F_law sc_law (len_law T) fun cdv A outer s H vs Q E gd hr h => ⟨t_law T.z.2 T, PSs.nox (pss_cons (ps_if (pt_not (pt_val (pe_call0 (ok_law_put_once_right T TB) (hr.mono (by decide)) (by rfl) T.m__law_put_once_right T.F_law_put_once_right.kp (b_law_put_once_right T) .nil pass0))) (pss_one (ps_ret pe_bl)) pss_nil)
      (pss_cons (ps_if (pt_not (pt_val (pe_call0 (ok_law_fractions_right T TB) (hr.mono (by decide)) (by rfl) T.m__law_fractions_right T.F_law_fractions_right.kp (b_law_fractions_right T) .nil pass0))) (pss_one (ps_ret pe_bl)) pss_nil)
      (pss_cons (ps_for PassesOwn.never rfl (pi_list (pe_call (ok_law_purses T) (hr.mono (by decide)) (by rfl) T.m__law_purses T.F_law_purses.kp (b_law_purses T) .nil pass0 (pa_cons (pv 0) (pa_cons pe_int pa_nil)))) (pg_name (i := 1) sc_law.nd rfl (Or.inl rfl)) (pss_cons (ps_set (i := 2) sc_law.nd rfl (Or.inl rfl) (pe_call (ok_law_names T) (hr.mono (by decide)) (by rfl) T.m__law_names T.F_law_names.kp (b_law_names T) .nil pass0 (pa_cons (pv 1) (pa_cons (pe_op op_add pe_int (pe_call (ok_law_draw T) (hr.mono (by decide)) (by rfl) T.m__law_draw T.F_law_draw.kp (b_law_draw T) .nil pass0 (pa_cons (pv 1) (pa_cons pe_int pa_nil)))) pa_nil))))
      (pss_cons (ps_par (i := 3) (j := 4) rfl sc_law.nd rfl rfl (by decide) rfl rfl (pa_cons (pe_call (ok_law_tree T) (hr.mono (by decide)) (by rfl) T.m__law_tree T.F_law_tree.kp (b_law_tree T) .nil pass0 (pa_cons (pv 1) (pa_cons pe_int (pa_cons (pv 2) pa_nil)))) (pa_cons (pe_call (ok_law_tree T) (hr.mono (by decide)) (by rfl) T.m__law_tree T.F_law_tree.kp (b_law_tree T) .nil pass0 (pa_cons (pv 1) (pa_cons pe_int (pa_cons (pv 2) pa_nil)))) pa_nil)) (by rfl))
      (pss_cons (ps_par (i := 5) (j := 6) rfl sc_law.nd rfl rfl (by decide) rfl rfl (pa_cons (pe_call (ok_law_form T) (hr.mono (by decide)) (by rfl) T.m__law_form T.F_law_form.kp (b_law_form T) .nil pass0 (pa_cons (pv 3) pa_nil)) (pa_cons (pe_call (ok_law_form T) (hr.mono (by decide)) (by rfl) T.m__law_form T.F_law_form.kp (b_law_form T) .nil pass0 (pa_cons (pv 4) pa_nil)) pa_nil)) (by rfl))
      (pss_cons (ps_set (i := 7) sc_law.nd rfl (Or.inl rfl) (pe_call (ok_law_form T) (hr.mono (by decide)) (by rfl) T.m__law_form T.F_law_form.kp (b_law_form T) .nil pass0 (pa_cons (pe_call (ok_law_tree T) (hr.mono (by decide)) (by rfl) T.m__law_tree T.F_law_tree.kp (b_law_tree T) .nil pass0 (pa_cons (pv 1) (pa_cons pe_int (pa_cons (pv 2) pa_nil)))) pa_nil)))
      (pss_cons (ps_for PassesOwn.never rfl (pi_tup (pe_tup (pa_cons (pv 5) (pa_cons (pv 6) (pa_cons (pe_op (op_binO (op := .Add) rfl T.S_Form T.M_Form___add (ok_Form___add T) (hr.mono (by decide)) (b_Form___add T) pass0) (pv 5) (pv 6)) (pa_cons (pe_op (op_binO (op := .Mult) rfl T.S_Form T.M_Form___mul (ok_Form___mul T) (hr.mono (by decide)) (b_Form___mul T) pass0) (pv 5) (pv 6)) (pa_cons (pe_op (op_binO (op := .Sub) rfl T.S_Form T.M_Form___sub (ok_Form___sub T) (hr.mono (by decide)) (b_Form___sub T) pass0) (pv 5) (pv 5)) (pa_cons (pe_op (op_binO (op := .Sub) rfl T.S_Form T.M_Form___sub (ok_Form___sub T) (hr.mono (by decide)) (b_Form___sub T) pass0) (pe_meth (pv 5) T.c_Form T.M_Form_over (ok_Form_over T) (hr.mono (by decide)) (b_Form_over T) .nil pass0 (pa_cons (pe_un un_neg pe_int) pa_nil)) (pv 7)) pa_nil)))))))) (pg_name (i := 8) sc_law.nd rfl (Or.inl rfl)) (pss_one (ps_if (pt_not (pt_val (pe_callG (ok_law_form_right T TB) gd (hr.mono (by decide)) (by rfl) T.m__law_form_right T.F_law_form_right.kp (b_law_form_right T) .nil pass0 (pa_cons (pv 1) (pa_cons (pv 8) (pa_cons (pv 2) pa_nil)))))) (pss_one (ps_ret pe_bl)) pss_nil)))
      (pss_cons (ps_if (pt_not (pt_val (pe_callG (ok_law_put_right T TB) gd (hr.mono (by decide)) (by rfl) T.m__law_put_right T.F_law_put_right.kp (b_law_put_right T) .nil pass0 (pa_cons (pv 1) (pa_cons (pv 3) (pa_cons (pv 4) (pa_cons (pv 2) pa_nil))))))) (pss_one (ps_ret pe_bl)) pss_nil)
      (pss_cons (ps_if (PW.pt (pw_or (pt_cmpR (op_neO T.O_Form (ok_Form___eq T) (hr.mono (by decide)) (b_Form___eq T) pass0) (pe_op (op_binO (op := .Add) rfl T.S_Form T.M_Form___add (ok_Form___add T) (hr.mono (by decide)) (b_Form___add T) pass0) (pv 5) (pv 6)) (pe_op (op_binO (op := .Add) rfl T.S_Form T.M_Form___add (ok_Form___add T) (hr.mono (by decide)) (b_Form___add T) pass0) (pv 6) (pv 5)) (nomark _)) (pw_or1 (pt_cmpR (op_neO T.O_Form (ok_Form___eq T) (hr.mono (by decide)) (b_Form___eq T) pass0) (pe_op (op_binO (op := .Mult) rfl T.S_Form T.M_Form___mul (ok_Form___mul T) (hr.mono (by decide)) (b_Form___mul T) pass0) (pv 5) (pe_op (op_binO (op := .Add) rfl T.S_Form T.M_Form___add (ok_Form___add T) (hr.mono (by decide)) (b_Form___add T) pass0) (pv 6) (pv 7))) (pe_op (op_binO (op := .Add) rfl T.S_Form T.M_Form___add (ok_Form___add T) (hr.mono (by decide)) (b_Form___add T) pass0) (pe_op (op_binO (op := .Mult) rfl T.S_Form T.M_Form___mul (ok_Form___mul T) (hr.mono (by decide)) (b_Form___mul T) pass0) (pv 5) (pv 6)) (pe_op (op_binO (op := .Mult) rfl T.S_Form T.M_Form___mul (ok_Form___mul T) (hr.mono (by decide)) (b_Form___mul T) pass0) (pv 5) (pv 7))) (nomark _))))) (pss_one (ps_ret pe_bl)) pss_nil)
      (pss_cons (ps_if (pt_not (pt_val (pe_call (ok_law_wholes_right T TB) (hr.mono (by decide)) (by rfl) T.m__law_wholes_right T.F_law_wholes_right.kp (b_law_wholes_right T) .nil pass0 (pa_cons (pv 5) pa_nil)))) (pss_one (ps_ret pe_bl)) pss_nil)
      (pss_cons (ps_par (i := 9) (j := 10) rfl sc_law.nd rfl rfl (by decide) rfl rfl (pa_cons (pe_op (op_binO (op := .Sub) rfl T.S_Form T.M_Form___sub (ok_Form___sub T) (hr.mono (by decide)) (b_Form___sub T) pass0) (pv 5) (pv 6)) (pa_cons (pe_op (op_binO (op := .Add) rfl T.S_Form T.M_Form___add (ok_Form___add T) (hr.mono (by decide)) (b_Form___add T) pass0) (pv 5) (pv 6)) pa_nil)) (by rfl))
      (pss_cons (ps_if (pt_cmpR (op_neO T.O_Form (ok_Form___eq T) (hr.mono (by decide)) (b_Form___eq T) pass0) (pe_op (op_binO (op := .Mult) rfl T.S_Form T.M_Form___mul (ok_Form___mul T) (hr.mono (by decide)) (b_Form___mul T) pass0) (pv 9) (pv 10)) (pe_op (op_binO (op := .Sub) rfl T.S_Form T.M_Form___sub (ok_Form___sub T) (hr.mono (by decide)) (b_Form___sub T) pass0) (pe_op (op_binO (op := .Mult) rfl T.S_Form T.M_Form___mul (ok_Form___mul T) (hr.mono (by decide)) (b_Form___mul T) pass0) (pv 5) (pv 5)) (pe_op (op_binO (op := .Mult) rfl T.S_Form T.M_Form___mul (ok_Form___mul T) (hr.mono (by decide)) (b_Form___mul T) pass0) (pv 6) (pv 6))) (nomark _)) (pss_one (ps_ret pe_bl)) pss_nil)
      (pss_cons (ps_if (pt_cmpR (op_neX hr.units) (pe_meth0 (pe_op (op_binO (op := .Sub) rfl T.S_Form T.M_Form___sub (ok_Form___sub T) (hr.mono (by decide)) (b_Form___sub T) pass0) (pv 5) (pv 5)) T.c_Form T.M_Form_terms (ok_Form_terms T TB) (hr.mono (by decide)) (b_Form_terms T) .nil pass0) (pe_lst pa_nil) (nomark _)) (pss_one (ps_ret pe_bl)) pss_nil)
      (pss_one (ps_if (PW.pt (pw_or (pt_cmpR (op_neX hr.units) (pe_cmpR (op_eqO T.O_Form (ok_Form___eq T) (hr.mono (by decide)) (b_Form___eq T) pass0) (pv 5) (pv 6) (nomark _)) (pe_cmpR (op_eqX hr.units) (pe_meth0 (pv 5) T.c_Form T.M_Form_terms (ok_Form_terms T TB) (hr.mono (by decide)) (b_Form_terms T) .nil pass0) (pe_meth0 (pv 6) T.c_Form T.M_Form_terms (ok_Form_terms T TB) (hr.mono (by decide)) (b_Form_terms T) .nil pass0) (nomark _)) (nomark _)) (pw_or1 (pt_cmpR (op_eqX hr.units) (pe_cmpR (op_neO T.O_Form (ok_Form___eq T) (hr.mono (by decide)) (b_Form___eq T) pass0) (pv 5) (pv 6) (nomark _)) (pe_cmpR (op_eqO T.O_Form (ok_Form___eq T) (hr.mono (by decide)) (b_Form___eq T) pass0) (pv 5) (pv 6) (nomark _)) (nomark _))))) (pss_one (ps_ret pe_bl)) pss_nil))))))))))))))
      (pss_one (ps_ret pe_bl))))), rd_law T vs H Q E h⟩
end
end CP

namespace CP
open PySem L2
theorem all_mk {w : World} {l : PySem.W.OpenLaw} {K : PySem.W.Frag} {h : Heap} {mg : Str → Option Value} {fa : Addr} (X : K.In h) (G : h.Ns mainGlobals mg) (hfa : mg "law" = some (.ref fa))
    {fis_whole : Addr} {odis_whole anis_whole : Option Addr} {slis_whole : Array (Option Value)} {ocis_whole kVis_whole dcis_whole pmis_whole cdis_whole ctis_whole : Value}
    {fis_letter : Addr} {odis_letter anis_letter : Option Addr} {slis_letter : Array (Option Value)} {ocis_letter kVis_letter dcis_letter pmis_letter cdis_letter ctis_letter : Value}
    {fcheck_letter : Addr} {odcheck_letter ancheck_letter : Option Addr} {slcheck_letter : Array (Option Value)} {occheck_letter kVcheck_letter dccheck_letter pmcheck_letter cdcheck_letter ctcheck_letter : Value}
    {fcheck_form : Addr} {odcheck_form ancheck_form : Option Addr} {slcheck_form : Array (Option Value)} {occheck_form kVcheck_form dccheck_form pmcheck_form cdcheck_form ctcheck_form : Value}
    {fare_values : Addr} {odare_values anare_values : Option Addr} {slare_values : Array (Option Value)} {ocare_values kVare_values dcare_values pmare_values cdare_values ctare_values : Value}
    {fcommon : Addr} {odcommon ancommon : Option Addr} {slcommon : Array (Option Value)} {occommon kVcommon dccommon pmcommon cdcommon ctcommon : Value}
    {fmade : Addr} {odmade anmade : Option Addr} {slmade : Array (Option Value)} {ocmade kVmade dcmade pmmade cdmade ctmade : Value}
    {fas_form : Addr} {odas_form anas_form : Option Addr} {slas_form : Array (Option Value)} {ocas_form kVas_form dcas_form pmas_form cdas_form ctas_form : Value}
    {fForm___init : Addr} {odForm___init anForm___init : Option Addr} {slForm___init : Array (Option Value)} {ocForm___init kVForm___init dcForm___init pmForm___init cdForm___init ctForm___init : Value}
    {fForm___add : Addr} {odForm___add anForm___add : Option Addr} {slForm___add : Array (Option Value)} {ocForm___add kVForm___add dcForm___add pmForm___add cdForm___add ctForm___add : Value}
    {fForm___neg : Addr} {odForm___neg anForm___neg : Option Addr} {slForm___neg : Array (Option Value)} {ocForm___neg kVForm___neg dcForm___neg pmForm___neg cdForm___neg ctForm___neg : Value}
    {fForm___sub : Addr} {odForm___sub anForm___sub : Option Addr} {slForm___sub : Array (Option Value)} {ocForm___sub kVForm___sub dcForm___sub pmForm___sub cdForm___sub ctForm___sub : Value}
    {fForm___mul : Addr} {odForm___mul anForm___mul : Option Addr} {slForm___mul : Array (Option Value)} {ocForm___mul kVForm___mul dcForm___mul pmForm___mul cdForm___mul ctForm___mul : Value}
    {fForm_over : Addr} {odForm_over anForm_over : Option Addr} {slForm_over : Array (Option Value)} {ocForm_over kVForm_over dcForm_over pmForm_over cdForm_over ctForm_over : Value}
    {fForm___eq : Addr} {odForm___eq anForm___eq : Option Addr} {slForm___eq : Array (Option Value)} {ocForm___eq kVForm___eq dcForm___eq pmForm___eq cdForm___eq ctForm___eq : Value}
    {fForm_terms : Addr} {odForm_terms anForm_terms : Option Addr} {slForm_terms : Array (Option Value)} {ocForm_terms kVForm_terms dcForm_terms pmForm_terms cdForm_terms ctForm_terms : Value}
    {fForm_letters : Addr} {odForm_letters anForm_letters : Option Addr} {slForm_letters : Array (Option Value)} {ocForm_letters kVForm_letters dcForm_letters pmForm_letters cdForm_letters ctForm_letters : Value}
    {fForm_degree : Addr} {odForm_degree anForm_degree : Option Addr} {slForm_degree : Array (Option Value)} {ocForm_degree kVForm_degree dcForm_degree pmForm_degree cdForm_degree ctForm_degree : Value}
    {fForm_part : Addr} {odForm_part anForm_part : Option Addr} {slForm_part : Array (Option Value)} {ocForm_part kVForm_part dcForm_part pmForm_part cdForm_part ctForm_part : Value}
    {fForm_above : Addr} {odForm_above anForm_above : Option Addr} {slForm_above : Array (Option Value)} {ocForm_above kVForm_above dcForm_above pmForm_above cdForm_above ctForm_above : Value}
    {fForm_at : Addr} {odForm_at anForm_at : Option Addr} {slForm_at : Array (Option Value)} {ocForm_at kVForm_at dcForm_at pmForm_at cdForm_at ctForm_at : Value}
    {fForm_put : Addr} {odForm_put anForm_put : Option Addr} {slForm_put : Array (Option Value)} {ocForm_put kVForm_put dcForm_put pmForm_put cdForm_put ctForm_put : Value}
    {fletter : Addr} {odletter anletter : Option Addr} {slletter : Array (Option Value)} {ocletter kVletter dcletter pmletter cdletter ctletter : Value}
    {fnumber : Addr} {odnumber annumber : Option Addr} {slnumber : Array (Option Value)} {ocnumber kVnumber dcnumber pmnumber cdnumber ctnumber : Value}
    {flaw_purse : Addr} {odlaw_purse anlaw_purse : Option Addr} {sllaw_purse : Array (Option Value)} {oclaw_purse kVlaw_purse dclaw_purse pmlaw_purse cdlaw_purse ctlaw_purse : Value}
    {flaw_mixed : Addr} {odlaw_mixed anlaw_mixed : Option Addr} {sllaw_mixed : Array (Option Value)} {oclaw_mixed kVlaw_mixed dclaw_mixed pmlaw_mixed cdlaw_mixed ctlaw_mixed : Value}
    {flaw_draw : Addr} {odlaw_draw anlaw_draw : Option Addr} {sllaw_draw : Array (Option Value)} {oclaw_draw kVlaw_draw dclaw_draw pmlaw_draw cdlaw_draw ctlaw_draw : Value}
    {flaw_purses : Addr} {odlaw_purses anlaw_purses : Option Addr} {sllaw_purses : Array (Option Value)} {oclaw_purses kVlaw_purses dclaw_purses pmlaw_purses cdlaw_purses ctlaw_purses : Value}
    {flaw_one_of : Addr} {odlaw_one_of anlaw_one_of : Option Addr} {sllaw_one_of : Array (Option Value)} {oclaw_one_of kVlaw_one_of dclaw_one_of pmlaw_one_of cdlaw_one_of ctlaw_one_of : Value}
    {flaw_tree : Addr} {odlaw_tree anlaw_tree : Option Addr} {sllaw_tree : Array (Option Value)} {oclaw_tree kVlaw_tree dclaw_tree pmlaw_tree cdlaw_tree ctlaw_tree : Value}
    {flaw_worth : Addr} {odlaw_worth anlaw_worth : Option Addr} {sllaw_worth : Array (Option Value)} {oclaw_worth kVlaw_worth dclaw_worth pmlaw_worth cdlaw_worth ctlaw_worth : Value}
    {flaw_form : Addr} {odlaw_form anlaw_form : Option Addr} {sllaw_form : Array (Option Value)} {oclaw_form kVlaw_form dclaw_form pmlaw_form cdlaw_form ctlaw_form : Value}
    {flaw_whole_at : Addr} {odlaw_whole_at anlaw_whole_at : Option Addr} {sllaw_whole_at : Array (Option Value)} {oclaw_whole_at kVlaw_whole_at dclaw_whole_at pmlaw_whole_at cdlaw_whole_at ctlaw_whole_at : Value}
    {flaw_values : Addr} {odlaw_values anlaw_values : Option Addr} {sllaw_values : Array (Option Value)} {oclaw_values kVlaw_values dclaw_values pmlaw_values cdlaw_values ctlaw_values : Value}
    {flaw_names : Addr} {odlaw_names anlaw_names : Option Addr} {sllaw_names : Array (Option Value)} {oclaw_names kVlaw_names dclaw_names pmlaw_names cdlaw_names ctlaw_names : Value}
    {flaw_common : Addr} {odlaw_common anlaw_common : Option Addr} {sllaw_common : Array (Option Value)} {oclaw_common kVlaw_common dclaw_common pmlaw_common cdlaw_common ctlaw_common : Value}
    {flaw_terms_right : Addr} {odlaw_terms_right anlaw_terms_right : Option Addr} {sllaw_terms_right : Array (Option Value)} {oclaw_terms_right kVlaw_terms_right dclaw_terms_right pmlaw_terms_right cdlaw_terms_right ctlaw_terms_right : Value}
    {flaw_form_right : Addr} {odlaw_form_right anlaw_form_right : Option Addr} {sllaw_form_right : Array (Option Value)} {oclaw_form_right kVlaw_form_right dclaw_form_right pmlaw_form_right cdlaw_form_right ctlaw_form_right : Value}
    {flaw_put_right : Addr} {odlaw_put_right anlaw_put_right : Option Addr} {sllaw_put_right : Array (Option Value)} {oclaw_put_right kVlaw_put_right dclaw_put_right pmlaw_put_right cdlaw_put_right ctlaw_put_right : Value}
    {flaw_wholes_right : Addr} {odlaw_wholes_right anlaw_wholes_right : Option Addr} {sllaw_wholes_right : Array (Option Value)} {oclaw_wholes_right kVlaw_wholes_right dclaw_wholes_right pmlaw_wholes_right cdlaw_wholes_right ctlaw_wholes_right : Value}
    {flaw_fractions_right : Addr} {odlaw_fractions_right anlaw_fractions_right : Option Addr} {sllaw_fractions_right : Array (Option Value)} {oclaw_fractions_right kVlaw_fractions_right dclaw_fractions_right pmlaw_fractions_right cdlaw_fractions_right ctlaw_fractions_right : Value}
    {flaw_put_once_right : Addr} {odlaw_put_once_right anlaw_put_once_right : Option Addr} {sllaw_put_once_right : Array (Option Value)} {oclaw_put_once_right kVlaw_put_once_right dclaw_put_once_right pmlaw_put_once_right cdlaw_put_once_right ctlaw_put_once_right : Value}
    {flaw : Addr} {odlaw anlaw : Option Addr} {sllaw : Array (Option Value)} {oclaw kVlaw dclaw pmlaw cdlaw ctlaw : Value}
    {CForm : Addr}
    {tkSMALL : Tok}
    {tc tP : Addr}
    (ais_whole : PySem.W.nsIn K mainGlobals "is_whole" = some (some (.ref fis_whole)))
    (lis_whole : K.lookup fis_whole = some ⟨ocis_whole, odis_whole, .func (PySem.W.fnOf "is_whole" "is_whole" (defArgs s_is_whole) (defBody s_is_whole) (defScope s_is_whole) .none kVis_whole dcis_whole pmis_whole anis_whole cdis_whole ctis_whole), slis_whole⟩)
    (cis_whole : PySem.W.codeIn K cdis_whole "is_whole" = true) (kis_whole : PySem.W.keepIn K (.ref fis_whole) = true)
    (ais_letter : PySem.W.nsIn K mainGlobals "is_letter" = some (some (.ref fis_letter)))
    (lis_letter : K.lookup fis_letter = some ⟨ocis_letter, odis_letter, .func (PySem.W.fnOf "is_letter" "is_letter" (defArgs s_is_letter) (defBody s_is_letter) (defScope s_is_letter) .none kVis_letter dcis_letter pmis_letter anis_letter cdis_letter ctis_letter), slis_letter⟩)
    (cis_letter : PySem.W.codeIn K cdis_letter "is_letter" = true) (kis_letter : PySem.W.keepIn K (.ref fis_letter) = true)
    (acheck_letter : PySem.W.nsIn K mainGlobals "check_letter" = some (some (.ref fcheck_letter)))
    (lcheck_letter : K.lookup fcheck_letter = some ⟨occheck_letter, odcheck_letter, .func (PySem.W.fnOf "check_letter" "check_letter" (defArgs s_check_letter) (defBody s_check_letter) (defScope s_check_letter) .none kVcheck_letter dccheck_letter pmcheck_letter ancheck_letter cdcheck_letter ctcheck_letter), slcheck_letter⟩)
    (ccheck_letter : PySem.W.codeIn K cdcheck_letter "check_letter" = true) (kcheck_letter : PySem.W.keepIn K (.ref fcheck_letter) = true)
    (acheck_form : PySem.W.nsIn K mainGlobals "check_form" = some (some (.ref fcheck_form)))
    (lcheck_form : K.lookup fcheck_form = some ⟨occheck_form, odcheck_form, .func (PySem.W.fnOf "check_form" "check_form" (defArgs s_check_form) (defBody s_check_form) (defScope s_check_form) .none kVcheck_form dccheck_form pmcheck_form ancheck_form cdcheck_form ctcheck_form), slcheck_form⟩)
    (ccheck_form : PySem.W.codeIn K cdcheck_form "check_form" = true) (kcheck_form : PySem.W.keepIn K (.ref fcheck_form) = true)
    (aare_values : PySem.W.nsIn K mainGlobals "are_values" = some (some (.ref fare_values)))
    (lare_values : K.lookup fare_values = some ⟨ocare_values, odare_values, .func (PySem.W.fnOf "are_values" "are_values" (defArgs s_are_values) (defBody s_are_values) (defScope s_are_values) .none kVare_values dcare_values pmare_values anare_values cdare_values ctare_values), slare_values⟩)
    (care_values : PySem.W.codeIn K cdare_values "are_values" = true) (kare_values : PySem.W.keepIn K (.ref fare_values) = true)
    (acommon : PySem.W.nsIn K mainGlobals "common" = some (some (.ref fcommon)))
    (lcommon : K.lookup fcommon = some ⟨occommon, odcommon, .func (PySem.W.fnOf "common" "common" (defArgs s_common) (defBody s_common) (defScope s_common) .none kVcommon dccommon pmcommon ancommon cdcommon ctcommon), slcommon⟩)
    (ccommon : PySem.W.codeIn K cdcommon "common" = true) (kcommon : PySem.W.keepIn K (.ref fcommon) = true)
    (amade : PySem.W.nsIn K mainGlobals "made" = some (some (.ref fmade)))
    (lmade : K.lookup fmade = some ⟨ocmade, odmade, .func (PySem.W.fnOf "made" "made" (defArgs s_made) (defBody s_made) (defScope s_made) .none kVmade dcmade pmmade anmade cdmade ctmade), slmade⟩)
    (cmade : PySem.W.codeIn K cdmade "made" = true) (kmade : PySem.W.keepIn K (.ref fmade) = true)
    (aas_form : PySem.W.nsIn K mainGlobals "as_form" = some (some (.ref fas_form)))
    (las_form : K.lookup fas_form = some ⟨ocas_form, odas_form, .func (PySem.W.fnOf "as_form" "as_form" (defArgs s_as_form) (defBody s_as_form) (defScope s_as_form) .none kVas_form dcas_form pmas_form anas_form cdas_form ctas_form), slas_form⟩)
    (cas_form : PySem.W.codeIn K cdas_form "as_form" = true) (kas_form : PySem.W.keepIn K (.ref fas_form) = true)
    (aForm___init : PySem.W.findIn K (.ref CForm) "__init__" = some (some (.ref fForm___init)))
    (lForm___init : K.lookup fForm___init = some ⟨ocForm___init, odForm___init, .func (PySem.W.fnOf "__init__" "Form.__init__" (defArgs s_Form___init) (defBody s_Form___init) (defScope s_Form___init) .none kVForm___init dcForm___init pmForm___init anForm___init cdForm___init ctForm___init), slForm___init⟩)
    (cForm___init : PySem.W.codeIn K cdForm___init "Form.__init__" = true) (kForm___init : PySem.W.keepIn K (.ref fForm___init) = true)
    (aForm___add : PySem.W.findIn K (.ref CForm) "__add__" = some (some (.ref fForm___add)))
    (lForm___add : K.lookup fForm___add = some ⟨ocForm___add, odForm___add, .func (PySem.W.fnOf "__add__" "Form.__add__" (defArgs s_Form___add) (defBody s_Form___add) (defScope s_Form___add) .none kVForm___add dcForm___add pmForm___add anForm___add cdForm___add ctForm___add), slForm___add⟩)
    (cForm___add : PySem.W.codeIn K cdForm___add "Form.__add__" = true) (kForm___add : PySem.W.keepIn K (.ref fForm___add) = true)
    (aForm___neg : PySem.W.findIn K (.ref CForm) "__neg__" = some (some (.ref fForm___neg)))
    (lForm___neg : K.lookup fForm___neg = some ⟨ocForm___neg, odForm___neg, .func (PySem.W.fnOf "__neg__" "Form.__neg__" (defArgs s_Form___neg) (defBody s_Form___neg) (defScope s_Form___neg) .none kVForm___neg dcForm___neg pmForm___neg anForm___neg cdForm___neg ctForm___neg), slForm___neg⟩)
    (cForm___neg : PySem.W.codeIn K cdForm___neg "Form.__neg__" = true) (kForm___neg : PySem.W.keepIn K (.ref fForm___neg) = true)
    (aForm___sub : PySem.W.findIn K (.ref CForm) "__sub__" = some (some (.ref fForm___sub)))
    (lForm___sub : K.lookup fForm___sub = some ⟨ocForm___sub, odForm___sub, .func (PySem.W.fnOf "__sub__" "Form.__sub__" (defArgs s_Form___sub) (defBody s_Form___sub) (defScope s_Form___sub) .none kVForm___sub dcForm___sub pmForm___sub anForm___sub cdForm___sub ctForm___sub), slForm___sub⟩)
    (cForm___sub : PySem.W.codeIn K cdForm___sub "Form.__sub__" = true) (kForm___sub : PySem.W.keepIn K (.ref fForm___sub) = true)
    (aForm___mul : PySem.W.findIn K (.ref CForm) "__mul__" = some (some (.ref fForm___mul)))
    (lForm___mul : K.lookup fForm___mul = some ⟨ocForm___mul, odForm___mul, .func (PySem.W.fnOf "__mul__" "Form.__mul__" (defArgs s_Form___mul) (defBody s_Form___mul) (defScope s_Form___mul) .none kVForm___mul dcForm___mul pmForm___mul anForm___mul cdForm___mul ctForm___mul), slForm___mul⟩)
    (cForm___mul : PySem.W.codeIn K cdForm___mul "Form.__mul__" = true) (kForm___mul : PySem.W.keepIn K (.ref fForm___mul) = true)
    (aForm_over : PySem.W.findIn K (.ref CForm) "over" = some (some (.ref fForm_over)))
    (lForm_over : K.lookup fForm_over = some ⟨ocForm_over, odForm_over, .func (PySem.W.fnOf "over" "Form.over" (defArgs s_Form_over) (defBody s_Form_over) (defScope s_Form_over) .none kVForm_over dcForm_over pmForm_over anForm_over cdForm_over ctForm_over), slForm_over⟩)
    (cForm_over : PySem.W.codeIn K cdForm_over "Form.over" = true) (kForm_over : PySem.W.keepIn K (.ref fForm_over) = true)
    (aForm___eq : PySem.W.findIn K (.ref CForm) "__eq__" = some (some (.ref fForm___eq)))
    (lForm___eq : K.lookup fForm___eq = some ⟨ocForm___eq, odForm___eq, .func (PySem.W.fnOf "__eq__" "Form.__eq__" (defArgs s_Form___eq) (defBody s_Form___eq) (defScope s_Form___eq) .none kVForm___eq dcForm___eq pmForm___eq anForm___eq cdForm___eq ctForm___eq), slForm___eq⟩)
    (cForm___eq : PySem.W.codeIn K cdForm___eq "Form.__eq__" = true) (kForm___eq : PySem.W.keepIn K (.ref fForm___eq) = true)
    (aForm_terms : PySem.W.findIn K (.ref CForm) "terms" = some (some (.ref fForm_terms)))
    (lForm_terms : K.lookup fForm_terms = some ⟨ocForm_terms, odForm_terms, .func (PySem.W.fnOf "terms" "Form.terms" (defArgs s_Form_terms) (defBody s_Form_terms) (defScope s_Form_terms) .none kVForm_terms dcForm_terms pmForm_terms anForm_terms cdForm_terms ctForm_terms), slForm_terms⟩)
    (cForm_terms : PySem.W.codeIn K cdForm_terms "Form.terms" = true) (kForm_terms : PySem.W.keepIn K (.ref fForm_terms) = true)
    (aForm_letters : PySem.W.findIn K (.ref CForm) "letters" = some (some (.ref fForm_letters)))
    (lForm_letters : K.lookup fForm_letters = some ⟨ocForm_letters, odForm_letters, .func (PySem.W.fnOf "letters" "Form.letters" (defArgs s_Form_letters) (defBody s_Form_letters) (defScope s_Form_letters) .none kVForm_letters dcForm_letters pmForm_letters anForm_letters cdForm_letters ctForm_letters), slForm_letters⟩)
    (cForm_letters : PySem.W.codeIn K cdForm_letters "Form.letters" = true) (kForm_letters : PySem.W.keepIn K (.ref fForm_letters) = true)
    (aForm_degree : PySem.W.findIn K (.ref CForm) "degree" = some (some (.ref fForm_degree)))
    (lForm_degree : K.lookup fForm_degree = some ⟨ocForm_degree, odForm_degree, .func (PySem.W.fnOf "degree" "Form.degree" (defArgs s_Form_degree) (defBody s_Form_degree) (defScope s_Form_degree) .none kVForm_degree dcForm_degree pmForm_degree anForm_degree cdForm_degree ctForm_degree), slForm_degree⟩)
    (cForm_degree : PySem.W.codeIn K cdForm_degree "Form.degree" = true) (kForm_degree : PySem.W.keepIn K (.ref fForm_degree) = true)
    (aForm_part : PySem.W.findIn K (.ref CForm) "part" = some (some (.ref fForm_part)))
    (lForm_part : K.lookup fForm_part = some ⟨ocForm_part, odForm_part, .func (PySem.W.fnOf "part" "Form.part" (defArgs s_Form_part) (defBody s_Form_part) (defScope s_Form_part) .none kVForm_part dcForm_part pmForm_part anForm_part cdForm_part ctForm_part), slForm_part⟩)
    (cForm_part : PySem.W.codeIn K cdForm_part "Form.part" = true) (kForm_part : PySem.W.keepIn K (.ref fForm_part) = true)
    (aForm_above : PySem.W.findIn K (.ref CForm) "above" = some (some (.ref fForm_above)))
    (lForm_above : K.lookup fForm_above = some ⟨ocForm_above, odForm_above, .func (PySem.W.fnOf "above" "Form.above" (defArgs s_Form_above) (defBody s_Form_above) (defScope s_Form_above) .none kVForm_above dcForm_above pmForm_above anForm_above cdForm_above ctForm_above), slForm_above⟩)
    (cForm_above : PySem.W.codeIn K cdForm_above "Form.above" = true) (kForm_above : PySem.W.keepIn K (.ref fForm_above) = true)
    (aForm_at : PySem.W.findIn K (.ref CForm) "at" = some (some (.ref fForm_at)))
    (lForm_at : K.lookup fForm_at = some ⟨ocForm_at, odForm_at, .func (PySem.W.fnOf "at" "Form.at" (defArgs s_Form_at) (defBody s_Form_at) (defScope s_Form_at) .none kVForm_at dcForm_at pmForm_at anForm_at cdForm_at ctForm_at), slForm_at⟩)
    (cForm_at : PySem.W.codeIn K cdForm_at "Form.at" = true) (kForm_at : PySem.W.keepIn K (.ref fForm_at) = true)
    (aForm_put : PySem.W.findIn K (.ref CForm) "put" = some (some (.ref fForm_put)))
    (lForm_put : K.lookup fForm_put = some ⟨ocForm_put, odForm_put, .func (PySem.W.fnOf "put" "Form.put" (defArgs s_Form_put) (defBody s_Form_put) (defScope s_Form_put) .none kVForm_put dcForm_put pmForm_put anForm_put cdForm_put ctForm_put), slForm_put⟩)
    (cForm_put : PySem.W.codeIn K cdForm_put "Form.put" = true) (kForm_put : PySem.W.keepIn K (.ref fForm_put) = true)
    (aletter : PySem.W.nsIn K mainGlobals "letter" = some (some (.ref fletter)))
    (lletter : K.lookup fletter = some ⟨ocletter, odletter, .func (PySem.W.fnOf "letter" "letter" (defArgs s_letter) (defBody s_letter) (defScope s_letter) .none kVletter dcletter pmletter anletter cdletter ctletter), slletter⟩)
    (cletter : PySem.W.codeIn K cdletter "letter" = true) (kletter : PySem.W.keepIn K (.ref fletter) = true)
    (anumber : PySem.W.nsIn K mainGlobals "number" = some (some (.ref fnumber)))
    (lnumber : K.lookup fnumber = some ⟨ocnumber, odnumber, .func (PySem.W.fnOf "number" "number" (defArgs s_number) (defBody s_number) (defScope s_number) .none kVnumber dcnumber pmnumber annumber cdnumber ctnumber), slnumber⟩)
    (cnumber : PySem.W.codeIn K cdnumber "number" = true) (knumber : PySem.W.keepIn K (.ref fnumber) = true)
    (alaw_purse : PySem.W.nsIn K mainGlobals "_law_purse" = some (some (.ref flaw_purse)))
    (llaw_purse : K.lookup flaw_purse = some ⟨oclaw_purse, odlaw_purse, .func (PySem.W.fnOf "_law_purse" "_law_purse" (defArgs s_law_purse) (defBody s_law_purse) (defScope s_law_purse) .none kVlaw_purse dclaw_purse pmlaw_purse anlaw_purse cdlaw_purse ctlaw_purse), sllaw_purse⟩)
    (claw_purse : PySem.W.codeIn K cdlaw_purse "_law_purse" = true) (klaw_purse : PySem.W.keepIn K (.ref flaw_purse) = true)
    (alaw_mixed : PySem.W.nsIn K mainGlobals "_law_mixed" = some (some (.ref flaw_mixed)))
    (llaw_mixed : K.lookup flaw_mixed = some ⟨oclaw_mixed, odlaw_mixed, .func (PySem.W.fnOf "_law_mixed" "_law_mixed" (defArgs s_law_mixed) (defBody s_law_mixed) (defScope s_law_mixed) .none kVlaw_mixed dclaw_mixed pmlaw_mixed anlaw_mixed cdlaw_mixed ctlaw_mixed), sllaw_mixed⟩)
    (claw_mixed : PySem.W.codeIn K cdlaw_mixed "_law_mixed" = true) (klaw_mixed : PySem.W.keepIn K (.ref flaw_mixed) = true)
    (alaw_draw : PySem.W.nsIn K mainGlobals "_law_draw" = some (some (.ref flaw_draw)))
    (llaw_draw : K.lookup flaw_draw = some ⟨oclaw_draw, odlaw_draw, .func (PySem.W.fnOf "_law_draw" "_law_draw" (defArgs s_law_draw) (defBody s_law_draw) (defScope s_law_draw) .none kVlaw_draw dclaw_draw pmlaw_draw anlaw_draw cdlaw_draw ctlaw_draw), sllaw_draw⟩)
    (claw_draw : PySem.W.codeIn K cdlaw_draw "_law_draw" = true) (klaw_draw : PySem.W.keepIn K (.ref flaw_draw) = true)
    (alaw_purses : PySem.W.nsIn K mainGlobals "_law_purses" = some (some (.ref flaw_purses)))
    (llaw_purses : K.lookup flaw_purses = some ⟨oclaw_purses, odlaw_purses, .func (PySem.W.fnOf "_law_purses" "_law_purses" (defArgs s_law_purses) (defBody s_law_purses) (defScope s_law_purses) .none kVlaw_purses dclaw_purses pmlaw_purses anlaw_purses cdlaw_purses ctlaw_purses), sllaw_purses⟩)
    (claw_purses : PySem.W.codeIn K cdlaw_purses "_law_purses" = true) (klaw_purses : PySem.W.keepIn K (.ref flaw_purses) = true)
    (alaw_one_of : PySem.W.nsIn K mainGlobals "_law_one_of" = some (some (.ref flaw_one_of)))
    (llaw_one_of : K.lookup flaw_one_of = some ⟨oclaw_one_of, odlaw_one_of, .func (PySem.W.fnOf "_law_one_of" "_law_one_of" (defArgs s_law_one_of) (defBody s_law_one_of) (defScope s_law_one_of) .none kVlaw_one_of dclaw_one_of pmlaw_one_of anlaw_one_of cdlaw_one_of ctlaw_one_of), sllaw_one_of⟩)
    (claw_one_of : PySem.W.codeIn K cdlaw_one_of "_law_one_of" = true) (klaw_one_of : PySem.W.keepIn K (.ref flaw_one_of) = true)
    (alaw_tree : PySem.W.nsIn K mainGlobals "_law_tree" = some (some (.ref flaw_tree)))
    (llaw_tree : K.lookup flaw_tree = some ⟨oclaw_tree, odlaw_tree, .func (PySem.W.fnOf "_law_tree" "_law_tree" (defArgs s_law_tree) (defBody s_law_tree) (defScope s_law_tree) .none kVlaw_tree dclaw_tree pmlaw_tree anlaw_tree cdlaw_tree ctlaw_tree), sllaw_tree⟩)
    (claw_tree : PySem.W.codeIn K cdlaw_tree "_law_tree" = true) (klaw_tree : PySem.W.keepIn K (.ref flaw_tree) = true)
    (alaw_worth : PySem.W.nsIn K mainGlobals "_law_worth" = some (some (.ref flaw_worth)))
    (llaw_worth : K.lookup flaw_worth = some ⟨oclaw_worth, odlaw_worth, .func (PySem.W.fnOf "_law_worth" "_law_worth" (defArgs s_law_worth) (defBody s_law_worth) (defScope s_law_worth) .none kVlaw_worth dclaw_worth pmlaw_worth anlaw_worth cdlaw_worth ctlaw_worth), sllaw_worth⟩)
    (claw_worth : PySem.W.codeIn K cdlaw_worth "_law_worth" = true) (klaw_worth : PySem.W.keepIn K (.ref flaw_worth) = true)
    (alaw_form : PySem.W.nsIn K mainGlobals "_law_form" = some (some (.ref flaw_form)))
    (llaw_form : K.lookup flaw_form = some ⟨oclaw_form, odlaw_form, .func (PySem.W.fnOf "_law_form" "_law_form" (defArgs s_law_form) (defBody s_law_form) (defScope s_law_form) .none kVlaw_form dclaw_form pmlaw_form anlaw_form cdlaw_form ctlaw_form), sllaw_form⟩)
    (claw_form : PySem.W.codeIn K cdlaw_form "_law_form" = true) (klaw_form : PySem.W.keepIn K (.ref flaw_form) = true)
    (alaw_whole_at : PySem.W.nsIn K mainGlobals "_law_whole_at" = some (some (.ref flaw_whole_at)))
    (llaw_whole_at : K.lookup flaw_whole_at = some ⟨oclaw_whole_at, odlaw_whole_at, .func (PySem.W.fnOf "_law_whole_at" "_law_whole_at" (defArgs s_law_whole_at) (defBody s_law_whole_at) (defScope s_law_whole_at) .none kVlaw_whole_at dclaw_whole_at pmlaw_whole_at anlaw_whole_at cdlaw_whole_at ctlaw_whole_at), sllaw_whole_at⟩)
    (claw_whole_at : PySem.W.codeIn K cdlaw_whole_at "_law_whole_at" = true) (klaw_whole_at : PySem.W.keepIn K (.ref flaw_whole_at) = true)
    (alaw_values : PySem.W.nsIn K mainGlobals "_law_values" = some (some (.ref flaw_values)))
    (llaw_values : K.lookup flaw_values = some ⟨oclaw_values, odlaw_values, .func (PySem.W.fnOf "_law_values" "_law_values" (defArgs s_law_values) (defBody s_law_values) (defScope s_law_values) .none kVlaw_values dclaw_values pmlaw_values anlaw_values cdlaw_values ctlaw_values), sllaw_values⟩)
    (claw_values : PySem.W.codeIn K cdlaw_values "_law_values" = true) (klaw_values : PySem.W.keepIn K (.ref flaw_values) = true)
    (alaw_names : PySem.W.nsIn K mainGlobals "_law_names" = some (some (.ref flaw_names)))
    (llaw_names : K.lookup flaw_names = some ⟨oclaw_names, odlaw_names, .func (PySem.W.fnOf "_law_names" "_law_names" (defArgs s_law_names) (defBody s_law_names) (defScope s_law_names) .none kVlaw_names dclaw_names pmlaw_names anlaw_names cdlaw_names ctlaw_names), sllaw_names⟩)
    (claw_names : PySem.W.codeIn K cdlaw_names "_law_names" = true) (klaw_names : PySem.W.keepIn K (.ref flaw_names) = true)
    (alaw_common : PySem.W.nsIn K mainGlobals "_law_common" = some (some (.ref flaw_common)))
    (llaw_common : K.lookup flaw_common = some ⟨oclaw_common, odlaw_common, .func (PySem.W.fnOf "_law_common" "_law_common" (defArgs s_law_common) (defBody s_law_common) (defScope s_law_common) .none kVlaw_common dclaw_common pmlaw_common anlaw_common cdlaw_common ctlaw_common), sllaw_common⟩)
    (claw_common : PySem.W.codeIn K cdlaw_common "_law_common" = true) (klaw_common : PySem.W.keepIn K (.ref flaw_common) = true)
    (alaw_terms_right : PySem.W.nsIn K mainGlobals "_law_terms_right" = some (some (.ref flaw_terms_right)))
    (llaw_terms_right : K.lookup flaw_terms_right = some ⟨oclaw_terms_right, odlaw_terms_right, .func (PySem.W.fnOf "_law_terms_right" "_law_terms_right" (defArgs s_law_terms_right) (defBody s_law_terms_right) (defScope s_law_terms_right) .none kVlaw_terms_right dclaw_terms_right pmlaw_terms_right anlaw_terms_right cdlaw_terms_right ctlaw_terms_right), sllaw_terms_right⟩)
    (claw_terms_right : PySem.W.codeIn K cdlaw_terms_right "_law_terms_right" = true) (klaw_terms_right : PySem.W.keepIn K (.ref flaw_terms_right) = true)
    (alaw_form_right : PySem.W.nsIn K mainGlobals "_law_form_right" = some (some (.ref flaw_form_right)))
    (llaw_form_right : K.lookup flaw_form_right = some ⟨oclaw_form_right, odlaw_form_right, .func (PySem.W.fnOf "_law_form_right" "_law_form_right" (defArgs s_law_form_right) (defBody s_law_form_right) (defScope s_law_form_right) .none kVlaw_form_right dclaw_form_right pmlaw_form_right anlaw_form_right cdlaw_form_right ctlaw_form_right), sllaw_form_right⟩)
    (claw_form_right : PySem.W.codeIn K cdlaw_form_right "_law_form_right" = true) (klaw_form_right : PySem.W.keepIn K (.ref flaw_form_right) = true)
    (alaw_put_right : PySem.W.nsIn K mainGlobals "_law_put_right" = some (some (.ref flaw_put_right)))
    (llaw_put_right : K.lookup flaw_put_right = some ⟨oclaw_put_right, odlaw_put_right, .func (PySem.W.fnOf "_law_put_right" "_law_put_right" (defArgs s_law_put_right) (defBody s_law_put_right) (defScope s_law_put_right) .none kVlaw_put_right dclaw_put_right pmlaw_put_right anlaw_put_right cdlaw_put_right ctlaw_put_right), sllaw_put_right⟩)
    (claw_put_right : PySem.W.codeIn K cdlaw_put_right "_law_put_right" = true) (klaw_put_right : PySem.W.keepIn K (.ref flaw_put_right) = true)
    (alaw_wholes_right : PySem.W.nsIn K mainGlobals "_law_wholes_right" = some (some (.ref flaw_wholes_right)))
    (llaw_wholes_right : K.lookup flaw_wholes_right = some ⟨oclaw_wholes_right, odlaw_wholes_right, .func (PySem.W.fnOf "_law_wholes_right" "_law_wholes_right" (defArgs s_law_wholes_right) (defBody s_law_wholes_right) (defScope s_law_wholes_right) .none kVlaw_wholes_right dclaw_wholes_right pmlaw_wholes_right anlaw_wholes_right cdlaw_wholes_right ctlaw_wholes_right), sllaw_wholes_right⟩)
    (claw_wholes_right : PySem.W.codeIn K cdlaw_wholes_right "_law_wholes_right" = true) (klaw_wholes_right : PySem.W.keepIn K (.ref flaw_wholes_right) = true)
    (alaw_fractions_right : PySem.W.nsIn K mainGlobals "_law_fractions_right" = some (some (.ref flaw_fractions_right)))
    (llaw_fractions_right : K.lookup flaw_fractions_right = some ⟨oclaw_fractions_right, odlaw_fractions_right, .func (PySem.W.fnOf "_law_fractions_right" "_law_fractions_right" (defArgs s_law_fractions_right) (defBody s_law_fractions_right) (defScope s_law_fractions_right) .none kVlaw_fractions_right dclaw_fractions_right pmlaw_fractions_right anlaw_fractions_right cdlaw_fractions_right ctlaw_fractions_right), sllaw_fractions_right⟩)
    (claw_fractions_right : PySem.W.codeIn K cdlaw_fractions_right "_law_fractions_right" = true) (klaw_fractions_right : PySem.W.keepIn K (.ref flaw_fractions_right) = true)
    (alaw_put_once_right : PySem.W.nsIn K mainGlobals "_law_put_once_right" = some (some (.ref flaw_put_once_right)))
    (llaw_put_once_right : K.lookup flaw_put_once_right = some ⟨oclaw_put_once_right, odlaw_put_once_right, .func (PySem.W.fnOf "_law_put_once_right" "_law_put_once_right" (defArgs s_law_put_once_right) (defBody s_law_put_once_right) (defScope s_law_put_once_right) .none kVlaw_put_once_right dclaw_put_once_right pmlaw_put_once_right anlaw_put_once_right cdlaw_put_once_right ctlaw_put_once_right), sllaw_put_once_right⟩)
    (claw_put_once_right : PySem.W.codeIn K cdlaw_put_once_right "_law_put_once_right" = true) (klaw_put_once_right : PySem.W.keepIn K (.ref flaw_put_once_right) = true)
    (alaw : PySem.W.nsIn K mainGlobals "law" = some (some (.ref flaw)))
    (llaw : K.lookup flaw = some ⟨oclaw, odlaw, .func (PySem.W.fnOf "law" "law" (defArgs s_law) (defBody s_law) (defScope s_law) .none kVlaw dclaw pmlaw anlaw cdlaw ctlaw), sllaw⟩)
    (claw : PySem.W.codeIn K cdlaw "law" = true) (klaw : PySem.W.keepIn K (.ref flaw) = true)
    (aCForm : PySem.W.nsIn K mainGlobals "Form" = some (some (.ref CForm)))
    (pgForm : PySem.W.plainGet K CForm Str.empty = true)
    (hdForm : PySem.W.hasDictIn K CForm = true)
    (poForm : PySem.W.plainOver K CForm = true)
    (saForm : PySem.W.findIn K (.ref CForm) "__setattr__" = some (some (.builtin "object.__setattr__")))
    (caForm : PySem.W.findIn K (.ref CForm) "__class__" = some (some (.builtin "object.__class__")))
    (cbForm : PySem.W.specialIn K (.builtin "object.__class__") "__get__" = some (some (.builtin "getset_descriptor.__get__")))
    (ccForm : PySem.W.takesIn K (.builtin "object.__class__") = some true)
    (cdForm : PySem.W.mroIn K CForm (.type "object") = some true)
    (sfForm : PySem.W.selfFirst K CForm = true)
    (iiForm : PySem.W.kitOne K (.ref CForm) (.type "int") = some false)
    (zaForm___add : PySem.W.findIn K (.ref CForm) "__radd__" = some none)
    (zbForm___add : PySem.W.findIn K (.type "int") "__add__" = some (some (.builtin "int.__add__")))
    (zcForm___add : PySem.W.findIn K (.type "int") "__radd__" = some (some (.builtin "int.__radd__")))
    (zdForm___add : PySem.W.subIn K (.type "int") (.ref CForm) = some false)
    (zaForm___sub : PySem.W.findIn K (.ref CForm) "__rsub__" = some none)
    (zbForm___sub : PySem.W.findIn K (.type "int") "__sub__" = some (some (.builtin "int.__sub__")))
    (zcForm___sub : PySem.W.findIn K (.type "int") "__rsub__" = some (some (.builtin "int.__rsub__")))
    (zdForm___sub : PySem.W.subIn K (.type "int") (.ref CForm) = some false)
    (zaForm___mul : PySem.W.findIn K (.ref CForm) "__rmul__" = some none)
    (zbForm___mul : PySem.W.findIn K (.type "int") "__mul__" = some (some (.builtin "int.__mul__")))
    (zcForm___mul : PySem.W.findIn K (.type "int") "__rmul__" = some (some (.builtin "int.__rmul__")))
    (zdForm___mul : PySem.W.subIn K (.type "int") (.ref CForm) = some false)
    (noFormrows : PySem.W.findIn K (.ref CForm) "rows" = some none)
    (noFormunder : PySem.W.findIn K (.ref CForm) "under" = some none)
    (iForm___init : PySem.W.isFn K (.ref fForm___init) = true)
    (mkForm : PySem.W.makesIn K CForm = true)
    (kcForm : PySem.W.keepIn K (.ref CForm) = true)
    (iForm___add : PySem.W.isFn K (.ref fForm___add) = true)
    (iForm___neg : PySem.W.isFn K (.ref fForm___neg) = true)
    (iForm___sub : PySem.W.isFn K (.ref fForm___sub) = true)
    (iForm___mul : PySem.W.isFn K (.ref fForm___mul) = true)
    (iForm_over : PySem.W.isFn K (.ref fForm_over) = true)
    (iForm___eq : PySem.W.isFn K (.ref fForm___eq) = true)
    (neForm : PySem.W.findIn K (.ref CForm) "__ne__" = some (some (.builtin "object.__ne__")))
    (obForm : PySem.W.subIn K (.ref CForm) (.type "object") = some true)
    (iForm_terms : PySem.W.isFn K (.ref fForm_terms) = true)
    (iForm_letters : PySem.W.isFn K (.ref fForm_letters) = true)
    (iForm_degree : PySem.W.isFn K (.ref fForm_degree) = true)
    (iForm_part : PySem.W.isFn K (.ref fForm_part) = true)
    (iForm_above : PySem.W.isFn K (.ref fForm_above) = true)
    (iForm_at : PySem.W.isFn K (.ref fForm_at) = true)
    (iForm_put : PySem.W.isFn K (.ref fForm_put) = true)
    (nabs : PySem.W.nsIn K mainGlobals "abs" = some none)
    (nbool : PySem.W.nsIn K mainGlobals "bool" = some none)
    (ndict : PySem.W.nsIn K mainGlobals "dict" = some none)
    (nint : PySem.W.nsIn K mainGlobals "int" = some none)
    (nisinstance : PySem.W.nsIn K mainGlobals "isinstance" = some none)
    (nlen : PySem.W.nsIn K mainGlobals "len" = some none)
    (nlist : PySem.W.nsIn K mainGlobals "list" = some none)
    (nmax : PySem.W.nsIn K mainGlobals "max" = some none)
    (nmin : PySem.W.nsIn K mainGlobals "min" = some none)
    (nrange : PySem.W.nsIn K mainGlobals "range" = some none)
    (nrepr : PySem.W.nsIn K mainGlobals "repr" = some none)
    (nset : PySem.W.nsIn K mainGlobals "set" = some none)
    (nsorted : PySem.W.nsIn K mainGlobals "sorted" = some none)
    (nstr : PySem.W.nsIn K mainGlobals "str" = some none)
    (nsum : PySem.W.nsIn K mainGlobals "sum" = some none)
    (ntuple : PySem.W.nsIn K mainGlobals "tuple" = some none)
    (aKSMALL : PySem.W.nsIn K mainGlobals "SMALL" = some (some (.str "abcdefghijklmnopqrstuvwxyz" tkSMALL)))
    (mrForm : (PySem.W.clsIn K CForm).map (·.mro) = some [.ref CForm, .type "object"])
    (jaForm : PySem.W.findIn K (.ref CForm) "__iadd__" = some none)
    (jsForm : PySem.W.findIn K (.ref CForm) "__isub__" = some none)
    {ts : List Addr} (hTab : LamP.tabFn K fForm_terms = some (tc, tP)) (nTab : K.lookup tP = none) (cTab : PySem.W.codeHdIn K tc tP = true) (mTab : ts.contains tP = true)
    : ∃ (tc tP : Addr) (fd : FuncData), PySem.W.codeHdIn (K) tc tP = true ∧ ts.contains tP = true ∧ (K).lookup tP = none ∧ (∀ (s : Shared) (v : Value), BindsTo s fd ⟨[v], []⟩ [("_law_script", v)]) ∧ ∀ base : Heap, (K).In base → base.Ns mainGlobals mg → LamX.TabB base mg tc tP → FnG l.prog w (K) mg base CX0 14 fa fd ["_law_script"] (sp_top (K) tP) := by
  have e := hfa.symm.trans (PySem.W.mg_of X G alaw)
  cases e
  let T : Txt K mg := {
    a_is_whole := fis_whole, fd_is_whole := _,
    F_is_whole := fun_mk (st := s_is_whole) lis_whole cis_whole kis_whole,
    m_is_whole := PySem.W.mg_of X G ais_whole,
    a_is_letter := fis_letter, fd_is_letter := _,
    F_is_letter := fun_mk (st := s_is_letter) lis_letter cis_letter kis_letter,
    m_is_letter := PySem.W.mg_of X G ais_letter,
    a_check_letter := fcheck_letter, fd_check_letter := _,
    F_check_letter := fun_mk (st := s_check_letter) lcheck_letter ccheck_letter kcheck_letter,
    m_check_letter := PySem.W.mg_of X G acheck_letter,
    a_check_form := fcheck_form, fd_check_form := _,
    F_check_form := fun_mk (st := s_check_form) lcheck_form ccheck_form kcheck_form,
    m_check_form := PySem.W.mg_of X G acheck_form,
    a_are_values := fare_values, fd_are_values := _,
    F_are_values := fun_mk (st := s_are_values) lare_values care_values kare_values,
    m_are_values := PySem.W.mg_of X G aare_values,
    a_common := fcommon, fd_common := _,
    F_common := fun_mk (st := s_common) lcommon ccommon kcommon,
    m_common := PySem.W.mg_of X G acommon,
    a_made := fmade, fd_made := _,
    F_made := fun_mk (st := s_made) lmade cmade kmade,
    m_made := PySem.W.mg_of X G amade,
    a_as_form := fas_form, fd_as_form := _,
    F_as_form := fun_mk (st := s_as_form) las_form cas_form kas_form,
    m_as_form := PySem.W.mg_of X G aas_form,
    a_Form___init := fForm___init, fd_Form___init := _,
    F_Form___init := fun_mk (st := s_Form___init) lForm___init cForm___init kForm___init,
    a_Form___add := fForm___add, fd_Form___add := _,
    F_Form___add := fun_mk (st := s_Form___add) lForm___add cForm___add kForm___add,
    a_Form___neg := fForm___neg, fd_Form___neg := _,
    F_Form___neg := fun_mk (st := s_Form___neg) lForm___neg cForm___neg kForm___neg,
    a_Form___sub := fForm___sub, fd_Form___sub := _,
    F_Form___sub := fun_mk (st := s_Form___sub) lForm___sub cForm___sub kForm___sub,
    a_Form___mul := fForm___mul, fd_Form___mul := _,
    F_Form___mul := fun_mk (st := s_Form___mul) lForm___mul cForm___mul kForm___mul,
    a_Form_over := fForm_over, fd_Form_over := _,
    F_Form_over := fun_mk (st := s_Form_over) lForm_over cForm_over kForm_over,
    a_Form___eq := fForm___eq, fd_Form___eq := _,
    F_Form___eq := fun_mk (st := s_Form___eq) lForm___eq cForm___eq kForm___eq,
    a_Form_terms := fForm_terms, fd_Form_terms := _,
    F_Form_terms := fun_mk (st := s_Form_terms) lForm_terms cForm_terms kForm_terms,
    a_Form_letters := fForm_letters, fd_Form_letters := _,
    F_Form_letters := fun_mk (st := s_Form_letters) lForm_letters cForm_letters kForm_letters,
    a_Form_degree := fForm_degree, fd_Form_degree := _,
    F_Form_degree := fun_mk (st := s_Form_degree) lForm_degree cForm_degree kForm_degree,
    a_Form_part := fForm_part, fd_Form_part := _,
    F_Form_part := fun_mk (st := s_Form_part) lForm_part cForm_part kForm_part,
    a_Form_above := fForm_above, fd_Form_above := _,
    F_Form_above := fun_mk (st := s_Form_above) lForm_above cForm_above kForm_above,
    a_Form_at := fForm_at, fd_Form_at := _,
    F_Form_at := fun_mk (st := s_Form_at) lForm_at cForm_at kForm_at,
    a_Form_put := fForm_put, fd_Form_put := _,
    F_Form_put := fun_mk (st := s_Form_put) lForm_put cForm_put kForm_put,
    a_letter := fletter, fd_letter := _,
    F_letter := fun_mk (st := s_letter) lletter cletter kletter,
    m_letter := PySem.W.mg_of X G aletter,
    a_number := fnumber, fd_number := _,
    F_number := fun_mk (st := s_number) lnumber cnumber knumber,
    m_number := PySem.W.mg_of X G anumber,
    a_law_purse := flaw_purse, fd_law_purse := _,
    F_law_purse := fun_mk (st := s_law_purse) llaw_purse claw_purse klaw_purse,
    m__law_purse := PySem.W.mg_of X G alaw_purse,
    a_law_mixed := flaw_mixed, fd_law_mixed := _,
    F_law_mixed := fun_mk (st := s_law_mixed) llaw_mixed claw_mixed klaw_mixed,
    m__law_mixed := PySem.W.mg_of X G alaw_mixed,
    a_law_draw := flaw_draw, fd_law_draw := _,
    F_law_draw := fun_mk (st := s_law_draw) llaw_draw claw_draw klaw_draw,
    m__law_draw := PySem.W.mg_of X G alaw_draw,
    a_law_purses := flaw_purses, fd_law_purses := _,
    F_law_purses := fun_mk (st := s_law_purses) llaw_purses claw_purses klaw_purses,
    m__law_purses := PySem.W.mg_of X G alaw_purses,
    a_law_one_of := flaw_one_of, fd_law_one_of := _,
    F_law_one_of := fun_mk (st := s_law_one_of) llaw_one_of claw_one_of klaw_one_of,
    m__law_one_of := PySem.W.mg_of X G alaw_one_of,
    a_law_tree := flaw_tree, fd_law_tree := _,
    F_law_tree := fun_mk (st := s_law_tree) llaw_tree claw_tree klaw_tree,
    m__law_tree := PySem.W.mg_of X G alaw_tree,
    a_law_worth := flaw_worth, fd_law_worth := _,
    F_law_worth := fun_mk (st := s_law_worth) llaw_worth claw_worth klaw_worth,
    m__law_worth := PySem.W.mg_of X G alaw_worth,
    a_law_form := flaw_form, fd_law_form := _,
    F_law_form := fun_mk (st := s_law_form) llaw_form claw_form klaw_form,
    m__law_form := PySem.W.mg_of X G alaw_form,
    a_law_whole_at := flaw_whole_at, fd_law_whole_at := _,
    F_law_whole_at := fun_mk (st := s_law_whole_at) llaw_whole_at claw_whole_at klaw_whole_at,
    m__law_whole_at := PySem.W.mg_of X G alaw_whole_at,
    a_law_values := flaw_values, fd_law_values := _,
    F_law_values := fun_mk (st := s_law_values) llaw_values claw_values klaw_values,
    m__law_values := PySem.W.mg_of X G alaw_values,
    a_law_names := flaw_names, fd_law_names := _,
    F_law_names := fun_mk (st := s_law_names) llaw_names claw_names klaw_names,
    m__law_names := PySem.W.mg_of X G alaw_names,
    a_law_common := flaw_common, fd_law_common := _,
    F_law_common := fun_mk (st := s_law_common) llaw_common claw_common klaw_common,
    m__law_common := PySem.W.mg_of X G alaw_common,
    a_law_terms_right := flaw_terms_right, fd_law_terms_right := _,
    F_law_terms_right := fun_mk (st := s_law_terms_right) llaw_terms_right claw_terms_right klaw_terms_right,
    m__law_terms_right := PySem.W.mg_of X G alaw_terms_right,
    a_law_form_right := flaw_form_right, fd_law_form_right := _,
    F_law_form_right := fun_mk (st := s_law_form_right) llaw_form_right claw_form_right klaw_form_right,
    m__law_form_right := PySem.W.mg_of X G alaw_form_right,
    a_law_put_right := flaw_put_right, fd_law_put_right := _,
    F_law_put_right := fun_mk (st := s_law_put_right) llaw_put_right claw_put_right klaw_put_right,
    m__law_put_right := PySem.W.mg_of X G alaw_put_right,
    a_law_wholes_right := flaw_wholes_right, fd_law_wholes_right := _,
    F_law_wholes_right := fun_mk (st := s_law_wholes_right) llaw_wholes_right claw_wholes_right klaw_wholes_right,
    m__law_wholes_right := PySem.W.mg_of X G alaw_wholes_right,
    a_law_fractions_right := flaw_fractions_right, fd_law_fractions_right := _,
    F_law_fractions_right := fun_mk (st := s_law_fractions_right) llaw_fractions_right claw_fractions_right klaw_fractions_right,
    m__law_fractions_right := PySem.W.mg_of X G alaw_fractions_right,
    a_law_put_once_right := flaw_put_once_right, fd_law_put_once_right := _,
    F_law_put_once_right := fun_mk (st := s_law_put_once_right) llaw_put_once_right claw_put_once_right klaw_put_once_right,
    m__law_put_once_right := PySem.W.mg_of X G alaw_put_once_right,
    a_law := fa, fd_law := _,
    F_law := fun_mk (st := s_law) llaw claw klaw,
    m_law := PySem.W.mg_of X G alaw,
    z := (l.prog, w),
    a_Form := CForm, m_Form := PySem.W.mg_of X G aCForm,
    c_Form := ⟨pgForm, hdForm, poForm, saForm⟩,
    I_Form := ⟨⟨pgForm, hdForm, poForm, saForm⟩, caForm, cbForm, ccForm, cdForm⟩,
    S_Form := ⟨sfForm, iiForm⟩,
    Z_Form___add := ⟨zaForm___add, zbForm___add, zcForm___add, zdForm___add⟩,
    Z_Form___sub := ⟨zaForm___sub, zbForm___sub, zcForm___sub, zdForm___sub⟩,
    Z_Form___mul := ⟨zaForm___mul, zbForm___mul, zcForm___mul, zdForm___mul⟩,
    n_Form_rows := noFormrows,
    n_Form_under := noFormunder,
    k_Form := ⟨mkForm, aForm___init, iForm___init, kcForm⟩,
    M_Form___add := ⟨aForm___add, iForm___add, kForm___add⟩,
    M_Form___neg := ⟨aForm___neg, iForm___neg, kForm___neg⟩,
    M_Form___sub := ⟨aForm___sub, iForm___sub, kForm___sub⟩,
    M_Form___mul := ⟨aForm___mul, iForm___mul, kForm___mul⟩,
    M_Form_over := ⟨aForm_over, iForm_over, kForm_over⟩,
    M_Form___eq := ⟨aForm___eq, iForm___eq, kForm___eq⟩,
    O_Form := ⟨aForm___eq, iForm___eq, neForm, obForm⟩,
    M_Form_terms := ⟨aForm_terms, iForm_terms, kForm_terms⟩,
    M_Form_letters := ⟨aForm_letters, iForm_letters, kForm_letters⟩,
    M_Form_degree := ⟨aForm_degree, iForm_degree, kForm_degree⟩,
    M_Form_part := ⟨aForm_part, iForm_part, kForm_part⟩,
    M_Form_above := ⟨aForm_above, iForm_above, kForm_above⟩,
    M_Form_at := ⟨aForm_at, iForm_at, kForm_at⟩,
    M_Form_put := ⟨aForm_put, iForm_put, kForm_put⟩,
    n_abs := PySem.W.mg_none_of X G nabs,
    n_bool := PySem.W.mg_none_of X G nbool,
    n_dict := PySem.W.mg_none_of X G ndict,
    n_int := PySem.W.mg_none_of X G nint,
    n_isinstance := PySem.W.mg_none_of X G nisinstance,
    n_len := PySem.W.mg_none_of X G nlen,
    n_list := PySem.W.mg_none_of X G nlist,
    n_max := PySem.W.mg_none_of X G nmax,
    n_min := PySem.W.mg_none_of X G nmin,
    n_range := PySem.W.mg_none_of X G nrange,
    n_repr := PySem.W.mg_none_of X G nrepr,
    n_set := PySem.W.mg_none_of X G nset,
    n_sorted := PySem.W.mg_none_of X G nsorted,
    n_str := PySem.W.mg_none_of X G nstr,
    n_sum := PySem.W.mg_none_of X G nsum,
    n_tuple := PySem.W.mg_none_of X G ntuple,
    u_SMALL := _, m_SMALL := ⟨PySem.W.mg_of X G aKSMALL, ⟨_, rfl⟩⟩,
    J_Form___add := ⟨mrForm, jaForm⟩,
    J_Form___sub := ⟨mrForm, jsForm⟩,
    tc := tc, tP := tP, tcode := LamP.code_isF hTab }
  exact ⟨tc, tP, PySem.W.fnOf "law" "law" (defArgs s_law) (defBody s_law) (defScope s_law) .none kVlaw dclaw pmlaw anlaw cdlaw ctlaw, cTab, mTab, nTab, fun s v => .of_eq rfl, fun base _ _ TB => (ok_law T TB).imp fun vs H Q E z => sp_law_top T vs H Q E z⟩
theorem walk {l : PySem.W.OpenLaw} {q : Program} {loose : List Str} {XP : (Str → Option Value) → Heap → Prop} {YP : World → Heap → Prop} {d : DefRec} {K : Params → PySem.W.Frag} {ts : List Addr} (hn : l.most = some 63) (hdf : d.params.defaults = [])
    (hY : ∀ (w : World) (h : Heap), YP w h → (K w.params).In h) (hTs : ∀ (w : World) (h : Heap), YP w h → ∀ P ∈ ts, h.get? P = some (PySem.W.tabObj #[]))
    (F : ∀ (w : World) (mg : Str → Option Value) (fa : Addr) (h : Heap), (K w.params).In h → h.Ns mainGlobals mg → mg d.name = some (.ref fa) → ∃ (tc tP : Addr) (fd : FuncData), PySem.W.codeHdIn ((K w.params)) tc tP = true ∧ ts.contains tP = true ∧ ((K w.params)).lookup tP = none ∧ (∀ (s : Shared) (v : Value), BindsTo s fd ⟨[v], []⟩ [("_law_script", v)]) ∧ ∀ base : Heap, ((K w.params)).In base → base.Ns mainGlobals mg → LamX.TabB base mg tc tP → FnG l.prog w ((K w.params)) mg base CX0 14 fa fd ["_law_script"] (sp_top ((K w.params)) tP)) :
    PySem.W.WalkO q loose XP YP l.row.toRowW d [] (fun f vs => PySem.call f vs) := by
  exact LamP.walk_lamG (n := 63) (k := 14) (x := "_law_script") (CX := fun _ => CX0) (sp := fun w tP => sp_top (K w.params) tP) hn (by decide) hdf ⟨rfl, by decide, by decide⟩ hY hTs F (fun _ _ _ a ns hl at_ hS => ⟨a, ns, rfl, hS, hl, at_, fun _ => rfl⟩) fun _ _ _ _ _ z => z
end CP
open PySem PySem.W PyProof.Rows
set_option maxRecDepth 100000 in
set_option maxHeartbeats 0 in
theorem PySem.Challenge.cw_cellplaces_k03_whole_terms_holds : PySem.Challenge.rw_cellplaces_k03_whole_terms.Holds := by
  w_on; o_law; k_head; (case hw => w_witness2)
  k_fill
  refine CP.walk (l := PySem.Challenge.rw_cellplaces_k03_whole_terms) rfl rfl (fun w h Y => PySem.W.km_in_of Y) (fun w h Y => PySem.W.km_tabs_of Y) ?F
  case F =>
    intro w mg fa h KX G hmg
    refine' CP.all_mk KX G hmg ?ais_whole ?lis_whole ?cis_whole ?kis_whole ?ais_letter ?lis_letter ?cis_letter ?kis_letter ?acheck_letter ?lcheck_letter ?ccheck_letter ?kcheck_letter ?acheck_form ?lcheck_form ?ccheck_form ?kcheck_form ?aare_values ?lare_values ?care_values ?kare_values ?acommon ?lcommon ?ccommon ?kcommon ?amade ?lmade ?cmade ?kmade ?aas_form ?las_form ?cas_form ?kas_form ?aForm___init ?lForm___init ?cForm___init ?kForm___init ?aForm___add ?lForm___add ?cForm___add ?kForm___add ?aForm___neg ?lForm___neg ?cForm___neg ?kForm___neg ?aForm___sub ?lForm___sub ?cForm___sub ?kForm___sub ?aForm___mul ?lForm___mul ?cForm___mul ?kForm___mul ?aForm_over ?lForm_over ?cForm_over ?kForm_over ?aForm___eq ?lForm___eq ?cForm___eq ?kForm___eq ?aForm_terms ?lForm_terms ?cForm_terms ?kForm_terms ?aForm_letters ?lForm_letters ?cForm_letters ?kForm_letters ?aForm_degree ?lForm_degree ?cForm_degree ?kForm_degree ?aForm_part ?lForm_part ?cForm_part ?kForm_part ?aForm_above ?lForm_above ?cForm_above ?kForm_above ?aForm_at ?lForm_at ?cForm_at ?kForm_at ?aForm_put ?lForm_put ?cForm_put ?kForm_put ?aletter ?lletter ?cletter ?kletter ?anumber ?lnumber ?cnumber ?knumber ?alaw_purse ?llaw_purse ?claw_purse ?klaw_purse ?alaw_mixed ?llaw_mixed ?claw_mixed ?klaw_mixed ?alaw_draw ?llaw_draw ?claw_draw ?klaw_draw ?alaw_purses ?llaw_purses ?claw_purses ?klaw_purses ?alaw_one_of ?llaw_one_of ?claw_one_of ?klaw_one_of ?alaw_tree ?llaw_tree ?claw_tree ?klaw_tree ?alaw_worth ?llaw_worth ?claw_worth ?klaw_worth ?alaw_form ?llaw_form ?claw_form ?klaw_form ?alaw_whole_at ?llaw_whole_at ?claw_whole_at ?klaw_whole_at ?alaw_values ?llaw_values ?claw_values ?klaw_values ?alaw_names ?llaw_names ?claw_names ?klaw_names ?alaw_common ?llaw_common ?claw_common ?klaw_common ?alaw_terms_right ?llaw_terms_right ?claw_terms_right ?klaw_terms_right ?alaw_form_right ?llaw_form_right ?claw_form_right ?klaw_form_right ?alaw_put_right ?llaw_put_right ?claw_put_right ?klaw_put_right ?alaw_wholes_right ?llaw_wholes_right ?claw_wholes_right ?klaw_wholes_right ?alaw_fractions_right ?llaw_fractions_right ?claw_fractions_right ?klaw_fractions_right ?alaw_put_once_right ?llaw_put_once_right ?claw_put_once_right ?klaw_put_once_right ?alaw ?llaw ?claw ?klaw ?aCForm ?pgForm ?hdForm ?poForm ?saForm ?caForm ?cbForm ?ccForm ?cdForm ?sfForm ?iiForm ?zaForm___add ?zbForm___add ?zcForm___add ?zdForm___add ?zaForm___sub ?zbForm___sub ?zcForm___sub ?zdForm___sub ?zaForm___mul ?zbForm___mul ?zcForm___mul ?zdForm___mul ?noFormrows ?noFormunder ?iForm___init ?mkForm ?kcForm ?iForm___add ?iForm___neg ?iForm___sub ?iForm___mul ?iForm_over ?iForm___eq ?neForm ?obForm ?iForm_terms ?iForm_letters ?iForm_degree ?iForm_part ?iForm_above ?iForm_at ?iForm_put ?nabs ?nbool ?ndict ?nint ?nisinstance ?nlen ?nlist ?nmax ?nmin ?nrange ?nrepr ?nset ?nsorted ?nstr ?nsum ?ntuple ?aKSMALL ?mrForm ?jaForm ?jsForm ?hTab ?nTab ?cTab ?mTab
    (case aCForm => k_is)
    (case ais_whole => k_is)
    (case lis_whole => k_is)
    (case cis_whole => k_is)
    (case kis_whole => k_is)
    (case ais_letter => k_is)
    (case lis_letter => k_is)
    (case cis_letter => k_is)
    (case kis_letter => k_is)
    (case acheck_letter => k_is)
    (case lcheck_letter => k_is)
    (case ccheck_letter => k_is)
    (case kcheck_letter => k_is)
    (case acheck_form => k_is)
    (case lcheck_form => k_is)
    (case ccheck_form => k_is)
    (case kcheck_form => k_is)
    (case aare_values => k_is)
    (case lare_values => k_is)
    (case care_values => k_is)
    (case kare_values => k_is)
    (case acommon => k_is)
    (case lcommon => k_is)
    (case ccommon => k_is)
    (case kcommon => k_is)
    (case amade => k_is)
    (case lmade => k_is)
    (case cmade => k_is)
    (case kmade => k_is)
    (case aas_form => k_is)
    (case las_form => k_is)
    (case cas_form => k_is)
    (case kas_form => k_is)
    (case aForm___init => k_is)
    (case lForm___init => k_is)
    (case cForm___init => k_is)
    (case kForm___init => k_is)
    (case aForm___add => k_is)
    (case lForm___add => k_is)
    (case cForm___add => k_is)
    (case kForm___add => k_is)
    (case aForm___neg => k_is)
    (case lForm___neg => k_is)
    (case cForm___neg => k_is)
    (case kForm___neg => k_is)
    (case aForm___sub => k_is)
    (case lForm___sub => k_is)
    (case cForm___sub => k_is)
    (case kForm___sub => k_is)
    (case aForm___mul => k_is)
    (case lForm___mul => k_is)
    (case cForm___mul => k_is)
    (case kForm___mul => k_is)
    (case aForm_over => k_is)
    (case lForm_over => k_is)
    (case cForm_over => k_is)
    (case kForm_over => k_is)
    (case aForm___eq => k_is)
    (case lForm___eq => k_is)
    (case cForm___eq => k_is)
    (case kForm___eq => k_is)
    (case aForm_terms => k_is)
    (case lForm_terms => k_is)
    (case cForm_terms => k_is)
    (case kForm_terms => k_is)
    (case aForm_letters => k_is)
    (case lForm_letters => k_is)
    (case cForm_letters => k_is)
    (case kForm_letters => k_is)
    (case aForm_degree => k_is)
    (case lForm_degree => k_is)
    (case cForm_degree => k_is)
    (case kForm_degree => k_is)
    (case aForm_part => k_is)
    (case lForm_part => k_is)
    (case cForm_part => k_is)
    (case kForm_part => k_is)
    (case aForm_above => k_is)
    (case lForm_above => k_is)
    (case cForm_above => k_is)
    (case kForm_above => k_is)
    (case aForm_at => k_is)
    (case lForm_at => k_is)
    (case cForm_at => k_is)
    (case kForm_at => k_is)
    (case aForm_put => k_is)
    (case lForm_put => k_is)
    (case cForm_put => k_is)
    (case kForm_put => k_is)
    (case aletter => k_is)
    (case lletter => k_is)
    (case cletter => k_is)
    (case kletter => k_is)
    (case anumber => k_is)
    (case lnumber => k_is)
    (case cnumber => k_is)
    (case knumber => k_is)
    (case alaw_purse => k_is)
    (case llaw_purse => k_is)
    (case claw_purse => k_is)
    (case klaw_purse => k_is)
    (case alaw_mixed => k_is)
    (case llaw_mixed => k_is)
    (case claw_mixed => k_is)
    (case klaw_mixed => k_is)
    (case alaw_draw => k_is)
    (case llaw_draw => k_is)
    (case claw_draw => k_is)
    (case klaw_draw => k_is)
    (case alaw_purses => k_is)
    (case llaw_purses => k_is)
    (case claw_purses => k_is)
    (case klaw_purses => k_is)
    (case alaw_one_of => k_is)
    (case llaw_one_of => k_is)
    (case claw_one_of => k_is)
    (case klaw_one_of => k_is)
    (case alaw_tree => k_is)
    (case llaw_tree => k_is)
    (case claw_tree => k_is)
    (case klaw_tree => k_is)
    (case alaw_worth => k_is)
    (case llaw_worth => k_is)
    (case claw_worth => k_is)
    (case klaw_worth => k_is)
    (case alaw_form => k_is)
    (case llaw_form => k_is)
    (case claw_form => k_is)
    (case klaw_form => k_is)
    (case alaw_whole_at => k_is)
    (case llaw_whole_at => k_is)
    (case claw_whole_at => k_is)
    (case klaw_whole_at => k_is)
    (case alaw_values => k_is)
    (case llaw_values => k_is)
    (case claw_values => k_is)
    (case klaw_values => k_is)
    (case alaw_names => k_is)
    (case llaw_names => k_is)
    (case claw_names => k_is)
    (case klaw_names => k_is)
    (case alaw_common => k_is)
    (case llaw_common => k_is)
    (case claw_common => k_is)
    (case klaw_common => k_is)
    (case alaw_terms_right => k_is)
    (case llaw_terms_right => k_is)
    (case claw_terms_right => k_is)
    (case klaw_terms_right => k_is)
    (case alaw_form_right => k_is)
    (case llaw_form_right => k_is)
    (case claw_form_right => k_is)
    (case klaw_form_right => k_is)
    (case alaw_put_right => k_is)
    (case llaw_put_right => k_is)
    (case claw_put_right => k_is)
    (case klaw_put_right => k_is)
    (case alaw_wholes_right => k_is)
    (case llaw_wholes_right => k_is)
    (case claw_wholes_right => k_is)
    (case klaw_wholes_right => k_is)
    (case alaw_fractions_right => k_is)
    (case llaw_fractions_right => k_is)
    (case claw_fractions_right => k_is)
    (case klaw_fractions_right => k_is)
    (case alaw_put_once_right => k_is)
    (case llaw_put_once_right => k_is)
    (case claw_put_once_right => k_is)
    (case klaw_put_once_right => k_is)
    (case alaw => k_is)
    (case llaw => k_is)
    (case claw => k_is)
    (case klaw => k_is)
    (case pgForm => k_is)
    (case hdForm => k_is)
    (case poForm => k_is)
    (case saForm => k_is)
    (case caForm => k_is)
    (case cbForm => k_is)
    (case ccForm => k_is)
    (case cdForm => k_is)
    (case sfForm => k_is)
    (case iiForm => kit_is)
    (case zaForm___add => k_is)
    (case zbForm___add => k_is)
    (case zcForm___add => k_is)
    (case zdForm___add => k_is)
    (case zaForm___sub => k_is)
    (case zbForm___sub => k_is)
    (case zcForm___sub => k_is)
    (case zdForm___sub => k_is)
    (case zaForm___mul => k_is)
    (case zbForm___mul => k_is)
    (case zcForm___mul => k_is)
    (case zdForm___mul => k_is)
    (case noFormrows => k_is)
    (case noFormunder => k_is)
    (case iForm___init => k_is)
    (case mkForm => k_is)
    (case kcForm => k_is)
    (case iForm___add => k_is)
    (case iForm___neg => k_is)
    (case iForm___sub => k_is)
    (case iForm___mul => k_is)
    (case iForm_over => k_is)
    (case iForm___eq => k_is)
    (case neForm => k_is)
    (case obForm => k_is)
    (case iForm_terms => k_is)
    (case iForm_letters => k_is)
    (case iForm_degree => k_is)
    (case iForm_part => k_is)
    (case iForm_above => k_is)
    (case iForm_at => k_is)
    (case iForm_put => k_is)
    (case nabs => k_is)
    (case nbool => k_is)
    (case ndict => k_is)
    (case nint => k_is)
    (case nisinstance => k_is)
    (case nlen => k_is)
    (case nlist => k_is)
    (case nmax => k_is)
    (case nmin => k_is)
    (case nrange => k_is)
    (case nrepr => k_is)
    (case nset => k_is)
    (case nsorted => k_is)
    (case nstr => k_is)
    (case nsum => k_is)
    (case ntuple => k_is)
    (case aKSMALL => k_is)
    (case mrForm => first | kernel_rfl | rfl | k_is)
    (case jaForm => k_is)
    (case jsForm => k_is)
    (case hTab => exact rfl)
    (case nTab => first | rfl | kernel_rfl | k_is)
    (case cTab => kernel_rfl)
    (case mTab => first | rfl | kernel_rfl)
