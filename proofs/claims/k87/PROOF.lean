import PyProof.Rows.All
import Wide.All
import OpenK.AllK
import Wide.FinOn
import HandS.Base
import HandS.Call
import HandS.List
import HandS.Comp
import HandS.Ends
import HandS.Dict
import HandS.Iter
import HandS.Words
import HandS.Wide
import HandS.WideBits
import HandS.Defaults
import HandS.IsInst
import HandS.SortInts
import HandS.Strs
import HandS.TupAny
import HandS.Steps
import HandS.Set
import HandS.SetFor
import HandS.MakeKwOnly
import PyProof.Rows.SortShellAny
import PyProof.Rows.SortStr
import PyProof.Rows.StrMeet
import HandS.OwnEq
import HandS.DeepEq
import HandS.DictComp
import PyProof.InstNe
import HandS.Style
import HandS.Zip
import PyProof.ZipIter
import OpenK.KOps
import KE.SortKeyHeap
import HandS.Lambda
import HandS.Keys
import HandS.EndTab
import HandS.EndOwn
import KE.KNest
import KE.SortData
import KE.KDictCopyH
import KE.KDictOf
import HandS.More
import HandS.DictTup
import HandS.WordsDict
import HandS.Property
import HandS.Nested
import HandS.TupLen
import KE.KWithOwn
import HandS.HeadHook2
import PySem.Challenge.RW_cellplaces_k87_stores_by_name
set_option Elab.async false
set_option linter.all false
set_option maxRecDepth 100000
set_option maxHeartbeats 4000000

set_option Elab.async false
set_option linter.all false
set_option maxRecDepth 100000
set_option maxHeartbeats 4000000
/-! CP: own short words over the hand layer: operators by name, readings one step at a time -/
namespace CP
open PySem L2

/-! ### operators by name -/
abbrev oAdd : R2 := rI0 fun i j => .int (i + j)
abbrev oMul : R2 := rI CMulW fun i j => .int (i * j)
abbrev oDiv : R2 := rI CDivW fun i j => .int (i / j)
abbrev oMod : R2 := rI (fun _ j => 0 < j) fun i j => .int (i % j)
abbrev oLt : R2 := rI0 fun i j => .bl (decide (i < j))
abbrev oLe : R2 := rI0 fun i j => .bl (decide (i ≤ j))
abbrev oGe : R2 := rI0 fun i j => .bl (decide (j ≤ i))
/-- a power of a base below 2 ^ 1000, the exponent at most 1000 -/
def CPw (i j : Int) : Prop := 0 ≤ j ∧ j ≤ 1000 ∧ i.natAbs < 2 ^ 1000
abbrev oPow : R2 := rI CPw fun i j => .int (i ^ j.toNat)
def oList (K : PySem.W.Frag) : List V → Hp → VK → Prop := fun xs H Q => ∃ p ys, xs = [.ref p] ∧ (SqL K H p ys ∨ SqT K H p ys) ∧ ∀ l, H l = none → Q (.ref l) (upd H l (.lst ys))
def oMax2 : List V → Hp → VK → Prop := fun xs H Q => ∃ i j, xs = [.int i, .int j] ∧ Q (.int (if j > i then j else i)) H
def oMin2 : List V → Hp → VK → Prop := fun xs H Q => ∃ i j, xs = [.int i, .int j] ∧ Q (.int (if j < i then j else i)) H
def oAbs : List V → Hp → VK → Prop := fun xs H Q => ∃ i, xs = [.int i] ∧ Q (.int (if i < 0 then -i else i)) H
def rLenA (K : PySem.W.Frag) : List V → Hp → VK → Prop := fun xs H Q => ∃ p ys, xs = [.ref p] ∧ (SqL K H p ys ∨ SqT K H p ys) ∧ Q (.int ys.length) H
section
variable {X : Cx}
theorem call_lenA : CallR X (.builtin "len") (rLenA X.K) := call_len_seq
theorem call_maxA (h : X.calm = true) : CallR X (.builtin "max") oMax2 := call_max2 h
theorem call_listA : CallR X (.type "list") (oList X.K) := call_list_of
theorem op_powW : OpR X (binaryOp .Pow) oPow := opI fun i j _ _ _ _ _ hc q => by
  obtain ⟨h0, h1, h2⟩ := hc
  refine PyProof.Rows.pow_int h0 ?_ q
  have b := PyProof.Rows.intBits_le h2
  have h3 : (Builtin.Int.intBits i : Int) * j ≤ 1000 * j := Int.mul_le_mul_of_nonneg_right (by omega) h0
  omega
end

/-! ### kinds of values, isinstance -/
def kinds : List String := ["NoneType", "bool", "int", "str", "list", "tuple", "dict"]
theorem kit_all : (kinds.all fun n => (["int", "bool", "str", "list", "tuple", "dict"]).all fun c => decide (kitB n c = some (n == c || (n == "bool" && c == "int")))) = true := by decide +kernel
theorem kit_in {K : PySem.W.Frag} {n c : String} (h : n ∈ kinds) (hc : c ∈ ["int", "bool", "str", "list", "tuple", "dict"]) : PySem.W.kitOne K (.type n) (.type c) = some (n == c || (n == "bool" && c == "int")) :=
  kit_ty (of_decide_eq_true (List.all_eq_true.mp (List.all_eq_true.mp kit_all n h) c hc))
/-- a value of one of these kinds -/
def TK (K : PySem.W.Frag) (H : Hp) (x : V) (n : String) : Prop := n ∈ kinds ∧ TyX K H x (.type n)
section
variable {K : PySem.W.Frag} {H : Hp} {Q : VK} {x : V} {n c : String}
theorem r_isi (h : TK K H x n) (hc : c ∈ ["int", "bool", "str", "list", "tuple", "dict"]) (q : Q (.bl (n == c || (n == "bool" && c == "int"))) H) : rIsi K [x, .ty c] H Q :=
  ⟨x, .ty c, .type n, .type c, _, rfl, .ty c, h.2, kit_in h.1 hc, q⟩
theorem tk_int {i : Int} : TK K H (.int i) "int" := ⟨by decide, .base (.int i)⟩
theorem tk_bl {b : Bool} : TK K H (.bl b) "bool" := ⟨by decide, .base (.bl b)⟩
theorem tk_non : TK K H .non "NoneType" := ⟨by decide, .base .non⟩
theorem tk_str {z : Str} : TK K H (.str z) "str" := ⟨by decide, .base (.str z)⟩
theorem tk_lst {a : Addr} {xs : List V} (h : H a = some (.lst xs)) : TK K H (.ref a) "list" := ⟨by decide, .base (.lst h)⟩
theorem tk_tup {a : Addr} {xs : List V} (h : H a = some (.tup xs)) : TK K H (.ref a) "tuple" := ⟨by decide, .base (.tup h)⟩
theorem tk_dK {a : Addr} {kvs : List (Key × V)} (h : H a = some (.dK kvs)) : TK K H (.ref a) "dict" := ⟨by decide, .base (.dK h)⟩
end
/-! ### sizes of products, divisors -/
theorem mul_ok {i j : Int} (h : -(2 ^ 400) < i ∧ i < 2 ^ 400 ∧ -(2 ^ 400) < j ∧ j < 2 ^ 400) : CMulW i j :=
  wide_mul (a := 400) (b := 400) (by omega) (by omega) (by decide) (by decide) (by decide)
theorem mul_okN {a b : Nat} (h : a < 2 ^ 400 ∧ b < 2 ^ 400) : CMulW (a : Int) (b : Int) := mul_ok (by omega)
theorem div_ok {i j : Int} (h : 0 < j ∧ j < 2 ^ 400) : CDivW i j := wide_div (b := 400) h.1 (by omega) (by decide) (by decide)

/-! ### heaps: one that grows, one that changes at one place -/
/-- all but l stands -/
def SB (l : Addr) (H H' : Hp) : Prop := ∀ b o, b ≠ l → H b = some o → H' b = some o
section
variable {H H1 H' : Hp} {a l : Addr} {o u : HO}
theorem same_new (h : H a = none) : Same H (upd H a o) := fun b u e => by
  rw [upd_ne (ne_of_none e h)]
  exact e
theorem sb_upd : SB l H (upd H l o) := fun b u hb e => by
  rw [upd_ne hb]
  exact e
theorem Same.to (s : Same H H') (h : H a = some o) : H' a = some o := s a o h
theorem SB.to (s : SB l H H') (n : a ≠ l) (h : H a = some o) : H' a = some o := s a o n h
theorem Same.sb (s : Same H H1) (n : H l = none) (b : SB l H1 H') : Same H H' := fun c u e => b c u (ne_of_none e n) (s c u e)
theorem SB.same (s : SB l H H1) (b : Same H1 H') : SB l H H' := fun c u hc e => b c u (s c u hc e)
theorem SB.trans (s : SB l H H1) (b : SB l H1 H') : SB l H H' := fun c u hc e => b c u hc (s c u hc e)
theorem SB.new (s : SB l H H1) (n : H a = none) (b : SB a H1 H') : SB l H H' := fun c u hc e => b c u (ne_of_none e n) (s c u hc e)
theorem SB.free (e : SB a H H') (h : H' l = none) (n : l ≠ a) : H l = none := by
  cases q : H l with
  | none => rfl
  | some o =>
    rw [e l o n q] at h
    cases h
end

/-! ### readings one step at a time -/
section
variable {K : PySem.W.Frag} {σ : St} {H : Hp} {Q : VK} {D : Ends} {i j : Nat} {v x y : V} {ta tb te : TE} {tt tu : TT} {t1 t2 : TS} {tas tr : TA}
theorem r_var (h : σ[i]? = some (some v)) (q : Q v H) : tVar i σ H Q := ⟨v, h, q⟩
theorem r_c (q : Q v H) : tC v σ H Q := q
theorem r_op {r : R2} (q : ta σ H fun x H1 => tb σ H1 fun y H2 => r x y H2 Q) : tOp r ta tb σ H Q := q
theorem r_un {r : V → Hp → VK → Prop} (q : ta σ H fun x H1 => r x H1 Q) : tUn r ta σ H Q := q
theorem r_I0 {g : Int → Int → V} {i j : Int} (q : Q (g i j) H) : rI0 g (.int i) (.int j) H Q := ⟨i, j, rfl, rfl, q⟩
theorem r_I {C : Int → Int → Prop} {g : Int → Int → V} {i j : Int} (c : C i j) (q : Q (g i j) H) : rI C g (.int i) (.int j) H Q := ⟨i, j, rfl, rfl, c, q⟩
theorem r_eqI {i j : Int} (q : Q (.bl (decide (i = j))) H) : rEq (.int i) (.int j) H Q := ⟨rfl, by
  have e : decide (V.int i = V.int j) = decide (i = j) := by
    by_cases h : i = j
    · subst h; simp
    · have h' : ¬ V.int i = V.int j := fun z => h (V.int.inj z)
      simp [h]
  rw [e]; exact q⟩
theorem r_neI {i j : Int} (q : Q (.bl (!decide (i = j))) H) : rNe (.int i) (.int j) H Q := ⟨rfl, by
  have e : decide (V.int i = V.int j) = decide (i = j) := by
    by_cases h : i = j
    · subst h; simp
    · have h' : ¬ V.int i = V.int j := fun z => h (V.int.inj z)
      simp [h]
  rw [e]; exact q⟩
theorem r_notN (q : Q (.bl (!decide (x = .non))) H) : rNotN x .non H Q := ⟨rfl, q⟩
theorem r_test {Q : Bool → Hp → Prop} (q : te σ H fun x H1 => ∃ k, x = .bl k ∧ Q k H1) : tTest te σ H Q := q
theorem r_tB {Q : Bool → Hp → Prop} (q : te σ H fun x H1 => ∃ k, x = .bl k ∧ Q k H1) : tB te σ H Q := q
theorem r_bl {b : Bool} {P : Bool → Prop} (q : P b) : ∃ k, V.bl b = .bl k ∧ P k := ⟨b, rfl, q⟩
theorem r_and {Q : Bool → Hp → Prop} (q : tt σ H fun c H1 => if c = true then tu σ H1 Q else Q false H1) : tAnd tt tu σ H Q := q
theorem r_or {Q : Bool → Hp → Prop} (q : tt σ H fun c H1 => if c = true then Q true H1 else tu σ H1 Q) : tOr tt tu σ H Q := q
theorem r_not {Q : Bool → Hp → Prop} (q : tt σ H fun c H1 => Q (!c) H1) : tNot tt σ H Q := q
theorem r_andV (q : ta σ H fun x H1 => ∃ c, x = .bl c ∧ if c = true then tb σ H1 Q else Q (.bl false) H1) : tAndV ta tb σ H Q := q
theorem r_orV (q : ta σ H fun x H1 => ∃ c, x = .bl c ∧ if c = true then Q (.bl true) H1 else tb σ H1 Q) : tOrV ta tb σ H Q := q
theorem r_notV (q : ta σ H fun x H1 => ∃ c, x = .bl c ∧ Q (.bl (!c)) H1) : tNotV ta σ H Q := q
theorem r_ifE (q : tt σ H fun c H1 => if c = true then ta σ H1 Q else tb σ H1 Q) : tIf tt ta tb σ H Q := q
theorem r_nil {Q : List V → Hp → Prop} (q : Q [] H) : tNil σ H Q := q
theorem r_cons {Q : List V → Hp → Prop} (q : ta σ H fun x H1 => tr σ H1 fun xs H2 => Q (x :: xs) H2) : tCons ta tr σ H Q := q
theorem r_cb {r : List V → Hp → VK → Prop} (q : tas σ H fun vs H1 => r vs H1 Q) : tCB r tas σ H Q := q
theorem r_call {sp : Sp} {E : XK} (q : tas σ H fun vs H1 => sp (vs ++ []) H1 Q E) : tCall sp [] E tas σ H Q := q
theorem r_callD {sp : Sp} {dvs : List V} {E : XK} (q : tas σ H fun vs H1 => sp (vs ++ dvs) H1 Q E) : tCall sp dvs E tas σ H Q := q
/-- a new object -/
def NewO (o : HO) (H : Hp) (Q : VK) : Prop := ∀ p, H p = none → Q (.ref p) (upd H p o)
theorem r_newO {o : HO} (q : ∀ p H', H p = none → Same H H' → H' p = some o → Q (.ref p) H') : NewO o H Q := fun p h => q p _ h (same_new h) upd_same
theorem r_lst (q : tas σ H fun xs H1 => xs.length ≤ sizeLine ∧ NewO (.lst xs) H1 Q) : tLst tas σ H Q := q
theorem r_tup (q : tas σ H fun xs H1 => xs.length ≤ sizeLine ∧ NewO (.tup xs) H1 Q) : tTup tas σ H Q := q
theorem r_dnewK (q : NewO (.dK []) H Q) : tDNewK σ H Q := q
theorem r_mk {n : Nat} {o : HO} (hz : n ≤ sizeLine) (q : ∀ p H', H p = none → Same H H' → H' p = some o → Q (.ref p) H') : n ≤ sizeLine ∧ NewO o H Q := ⟨hz, r_newO q⟩
/-! built-ins by what they say -/
theorem r_len {p : Addr} {ys : List V} (h : SqL K H p ys) (q : Q (.int ys.length) H) : rLenA K [.ref p] H Q := ⟨p, ys, rfl, .inl h, q⟩
theorem r_lenT {p : Addr} {ys : List V} (h : SqT K H p ys) (q : Q (.int ys.length) H) : rLenA K [.ref p] H Q := ⟨p, ys, rfl, .inr h, q⟩
theorem r_list {p : Addr} {ys : List V} (h : SqL K H p ys) (q : ∀ l H', H l = none → Same H H' → H' l = some (.lst ys) → Q (.ref l) H') : oList K [.ref p] H Q := ⟨p, ys, rfl, .inl h, fun l hl => q l _ hl (same_new hl) upd_same⟩
theorem r_max2 {i j : Int} (q : Q (.int (if j > i then j else i)) H) : oMax2 [.int i, .int j] H Q := ⟨i, j, rfl, q⟩
theorem r_min2 {i j : Int} (q : Q (.int (if j < i then j else i)) H) : oMin2 [.int i, .int j] H Q := ⟨i, j, rfl, q⟩
theorem r_abs {i : Int} (q : Q (.int (if i < 0 then -i else i)) H) : oAbs [.int i] H Q := ⟨i, rfl, q⟩
theorem r_sum {p : Addr} {ns : List Int} (h : SqL K H p (ns.map V.int)) (q : Q (.int ns.sum) H) : rSum K [.ref p] H Q := ⟨p, ns, rfl, h, q⟩
theorem r_cat {p b : Addr} {xs ys : List V} (h : H p = some (.lst xs)) (h2 : H b = some (.lst ys)) (hz : xs.length + ys.length ≤ sizeLine) (q : ∀ l H', H l = none → Same H H' → H' l = some (.lst (xs ++ ys)) → Q (.ref l) H') : rCat (.ref p) (.ref b) H Q :=
  ⟨p, b, xs, ys, rfl, rfl, h, h2, hz, fun l hl => q l _ hl (same_new hl) upd_same⟩
theorem r_app {p : Addr} {xs : List V} {y : V} (h : H p = some (.lst xs)) (hz : xs.length < sizeLine) (q : ∀ H', SB p H H' → H' p = some (.lst (xs ++ [y])) → Q .non H') : rAppend (.ref p) [y] H Q :=
  ⟨p, xs, y, rfl, rfl, h, hz, q _ sb_upd upd_same⟩
theorem r_slL {p : Addr} {xs : List V} {lo hi : Option Int} (h : SqL K H p xs) (q : ∀ l H', H l = none → Same H H' → H' l = some (.lst (cutV xs lo hi)) → Q (.ref l) H') : rSlL K (.ref p) lo hi H Q :=
  ⟨p, xs, rfl, h, fun l hl => q l _ hl (same_new hl) upd_same⟩
theorem r_ixL {p : Addr} {xs : List V} {i : Int} {v : V} (h : SqL K H p xs) (ha : atI xs i = some v) (q : Q v H) : rIxL K (.ref p) (.int i) H Q := ⟨p, xs, i, v, rfl, rfl, h, ha, q⟩
theorem r_ixT {p : Addr} {xs : List V} {i : Int} {v : V} (h : SqT K H p xs) (ha : atI xs i = some v) (q : Q v H) : rIxT K (.ref p) (.int i) H Q := ⟨p, xs, i, v, rfl, rfl, h, ha, q⟩
theorem r_gsub {to ti : TE} {t : TSet} {q' : St → Hp → Prop} (q : to σ H fun o H1 => ti σ H1 fun i H2 => t o i v H2 fun H3 => q' σ H3) : gSub to ti t v σ H q' := q
theorem r_in {p : Addr} {xs : List V} {neg : Bool} (h : SqL K H p xs) (hx : flatV x = true) (ha : xs.all flatV = true) (q : Q (.bl (if neg then !inV x xs else inV x xs)) H) : rIn K neg x (.ref p) H Q := ⟨p, xs, rfl, .inl h, hx, ha, q⟩
theorem r_bits {te : TE} (q : te σ H fun x H1 => ∃ i, x = .int i ∧ Q (.int (Builtin.Int.intBits i : Nat)) H1) : tBits te σ H Q := q
theorem r_iTup {R : It → Hp → Prop} {tl : TE} (q : tl σ H fun x H1 => ∃ a, x = .ref a ∧ (∃ xs, SqT K H1 a xs) ∧ R (Itt K a) H1) : iTup K tl σ H R := q
theorem r_iList {R : It → Hp → Prop} {tl : TE} (q : tl σ H fun x H1 => ∃ a, x = .ref a ∧ (∃ xs, SqL K H1 a xs) ∧ R (Itl K a) H1) : iList K tl σ H R := q
theorem r_iRng1 {R : It → Hp → Prop} (q : tas σ H fun vs H1 => ∃ j : Int, vs = [.int j] ∧ -(2 ^ 62) ≤ j ∧ j < 2 ^ 62 ∧ R (Itr 0 j.toNat) H1) : iRng1 tas σ H R := q
theorem r_dget2 {td ty tx : TE} (q : td σ H fun x H1 => ∃ a, x = .ref a ∧ IsD H1 a ∧ ty σ H1 fun y H2 => tx σ H2 fun z H3 => ∃ o, DGet H3 a y o ∧ Q (o.getD z) H3) : tDGet2 td ty tx σ H Q := q
theorem r_sdput {td ty tv : TE} (q : tv σ H fun v H1 => td σ H1 fun x H2 => ty σ H2 fun y H3 => ∃ a H4, x = .ref a ∧ DPut H3 a y v H4 ∧ D.nx σ H4) : sDPut td ty tv D σ H := q
theorem r_disp1 {i j : Int} (q : ∀ D H', H D = none → Same H H' → H' D = some (.dK [(Sum.inl i, .int j)]) → Q (.ref D) H') : tDisp [(tC (.int i), tC (.int j))] σ H Q := fun D hD => by
  refine ⟨upd_same, [(Sum.inl i, .int j)], rfl, Nat.succ_le_succ (Nat.zero_le _), ?_⟩
  refine q D _ hD (fun b o hb => ?_) upd_same
  have hne : b ≠ D := fun e => by rw [e, hD] at hb; cases hb
  rw [upd_ne hne, upd_ne hne]
  exact hb
theorem r_iRng2 {R : It → Hp → Prop} (q : tas σ H fun vs H1 => ∃ i j : Int, vs = [.int i, .int j] ∧ (-(2 ^ 62) ≤ i ∧ i < 2 ^ 62 ∧ -(2 ^ 62) ≤ j ∧ j < 2 ^ 62) ∧ R (Itr i (j - i).toNat) H1) : iRng2 tas σ H R := q
theorem r_rng2 {P : Int → Int → Prop} {i j : Int} (h : -(2 ^ 62) ≤ i ∧ i < 2 ^ 62 ∧ -(2 ^ 62) ≤ j ∧ j < 2 ^ 62) (q : P i j) : ∃ i' j' : Int, [V.int i, V.int j] = [.int i', .int j'] ∧ (-(2 ^ 62) ≤ i' ∧ i' < 2 ^ 62 ∧ -(2 ^ 62) ≤ j' ∧ j' < 2 ^ 62) ∧ P i' j' := ⟨i, j, rfl, h, q⟩
theorem r_neB {a b : Bool} (q : Q (.bl (a != b)) H) : rNe (.bl a) (.bl b) H Q := ⟨rfl, by cases a <;> cases b <;> simpa using q⟩
theorem r_eqB {a b : Bool} (q : Q (.bl (a == b)) H) : rEq (.bl a) (.bl b) H Q := ⟨rfl, by cases a <;> cases b <;> simpa using q⟩
theorem r_gtup {n : Nat} {u : TGs} {p : Addr} {xs : List V} {q' : St → Hp → Prop} (h : SqT K H p xs) (hl : xs.length = n) (q : u xs σ H q') : gTup K n u (.ref p) σ H q' := ⟨p, xs, rfl, h, hl, q⟩
theorem r_gcons {t : TG} {u : TGs} {v : V} {r : List V} {q' : St → Hp → Prop} (q : t v σ H fun σ' H' => u r σ' H' q') : gCons t u (v :: r) σ H q' := ⟨v, r, rfl, q⟩
theorem r_gnil {q' : St → Hp → Prop} (q : q' σ H) : gNil [] σ H q' := ⟨rfl, q⟩
theorem r_rng {P : Int → Prop} {j : Int} (h1 : -(2 ^ 62) ≤ j) (h2 : j < 2 ^ 62) (q : P j) : ∃ k : Int, [V.int j] = [.int k] ∧ -(2 ^ 62) ≤ k ∧ k < 2 ^ 62 ∧ P k := ⟨j, rfl, h1, h2, q⟩
/-- a comprehension over a list that stands, of flat tests and elements: what it makes -/
theorem r_lc {wi : TI} {g : TG} {vs : List Nat} (q : wi σ H fun J H1 => ∀ D, H1 D = none → ∃ W : Nat → Nat → Hp → Prop, (∃ m, W 0 m (upd H1 D (.lst []))) ∧ ∀ i m H, W i m H →
    (J.stop i H ∧ Q (.ref D) H) ∨ (J.go i H ∧ ∃ Nx : Hp → Prop, (∀ H', Nx H' → ∃ m', m' < m ∧ W (i + 1) m' H') ∧ ∀ x H', J.yld i H x H' → g x (wipe σ vs) H' fun σ2 H2 => wipe σ2 vs = wipe σ vs ∧ tt σ2 H2 fun b H3 =>
      if b = true then te σ2 H3 fun y H4 => ∃ acc, H4 D = some (.lst acc) ∧ acc.length < sizeLine ∧ Nx (upd H4 D (.lst (acc ++ [y]))) else Nx H3)) : tLc wi g tt te vs σ H Q := q
/-! statements -/
theorem r_seq (q : t1 { D with nx := t2 D } σ H) : tSeq t1 t2 D σ H := q
theorem r_next (q : D.nx σ H) : tNext D σ H := q
theorem r_asg {g : TG} (q : te σ H fun x H1 => g x σ H1 D.nx) : tAsg te g D σ H := q
theorem r_name {q' : St → Hp → Prop} (q : q' (σ.set i (some v)) H) : gName i v σ H q' := q
theorem r_par (q : tas σ H fun vs H1 => ∃ v w, vs = [v, w] ∧ D.nx ((σ.set i (some v)).set j (some w)) H1) : tPar i j tas D σ H := q
theorem r_two {v w : V} {P : V → V → Prop} (q : P v w) : ∃ x y, [v, w] = [x, y] ∧ P x y := ⟨v, w, rfl, q⟩
theorem r_ret (q : te σ H D.rt) : tRet te D σ H := q
theorem r_retN (q : D.rt .non H) : tRetN D σ H := q
theorem r_drop (q : te σ H fun _ H1 => D.nx σ H1) : tDrop te D σ H := q
theorem r_ifS (q : tt σ H fun b H1 => if b = true then t1 D σ H1 else t2 D σ H1) : tIfS tt t1 t2 D σ H := q
/-! branches -/
theorem if_d {c : Prop} [Decidable c] {A B : Prop} (h1 : c → A) (h2 : ¬ c → B) : if decide c = true then A else B := by
  by_cases h : c
  · rw [decide_eq_true h, if_pos rfl]; exact h1 h
  · rw [decide_eq_false h, if_neg Bool.false_ne_true]; exact h2 h
theorem if_nd {c : Prop} [Decidable c] {A B : Prop} (h1 : ¬ c → A) (h2 : c → B) : if (!decide c) = true then A else B := by
  by_cases h : c
  · rw [decide_eq_true h]; exact h2 h
  · rw [decide_eq_false h]; exact h1 h
theorem if_b {b : Bool} {A B : Prop} (h1 : b = true → A) (h2 : b = false → B) : if b = true then A else B := by
  cases b with
  | true => exact h1 rfl
  | false => exact h2 rfl
theorem if_t {A B : Prop} (h : A) : if true = true then A else B := h
theorem if_f {A B : Prop} (h : B) : if false = true then A else B := h
theorem if_nt {A B : Prop} (h : A) : if (!false) = true then A else B := h
theorem if_nf {A B : Prop} (h : B) : if (!true) = true then A else B := h
theorem r_sl {r : V → Option Int → Option Int → Hp → VK → Prop} {tl th : TO} (q : te σ H fun x H1 => tl σ H1 fun l H2 => th σ H2 fun u H3 => r x l u H3 Q) : tSl r te tl th σ H Q := q
theorem r_noPart {Q : Option Int → Hp → Prop} (q : Q none H) : tNoPart σ H Q := q
theorem r_part {Q : Option Int → Hp → Prop} (q : te σ H fun x H1 => ∃ i, x = .int i ∧ Q (some i) H1) : tPart te σ H Q := q
theorem r_int {i : Int} {P : Int → Prop} (q : P i) : ∃ k, V.int i = .int k ∧ P k := ⟨i, rfl, q⟩
theorem r_bm {T : String} {r : V → List V → Hp → VK → Prop} (q : ta σ H fun x H1 => tyV K T x H1 ∧ tas σ H1 fun xs H2 => r x xs H2 Q) : tBM K T r ta tas σ H Q := q
theorem r_bm0 {T : String} {r : V → List V → Hp → VK → Prop} (q : ta σ H fun x H1 => tyV K T x H1 ∧ r x [] H1 Q) : tBM0 K T r ta σ H Q := q
/-! loops -/
theorem r_for {wi : TI} {g : TG} {tb : TS} (q : wi σ H fun J H1 => ∃ W : Nat → Nat → St → Hp → Prop, (∃ m, W 0 m σ H1) ∧ ∀ i m σ H, W i m σ H →
    (J.stop i H ∧ D.nx σ H) ∨ (J.go i H ∧ ∃ N : St → Hp → Prop, (∀ σ' H', N σ' H' → ∃ m', m' < m ∧ W (i + 1) m' σ' H') ∧ ∀ x H', J.yld i H x H' → g x σ H' fun σ2 H2 => tb { D with nx := N, ct := N, bk := D.nx } σ2 H2)) : tFor wi g tb D σ H := q
end
section
variable {H : Hp} {Q : VK} {p : Addr}
theorem r_notNr (q : Q (.bl true) H) : rNotN (.ref p) .non H Q := ⟨rfl, by rw [decide_eq_false (fun z => nomatch z)]; exact q⟩
theorem r_notNn (q : Q (.bl false) H) : rNotN .non .non H Q := ⟨rfl, by rw [decide_eq_true rfl]; exact q⟩
theorem r_isNr (q : Q (.bl false) H) : rIsN (.ref p) .non H Q := ⟨rfl, by rw [decide_eq_false (fun z => nomatch z)]; exact q⟩
theorem r_isNn (q : Q (.bl true) H) : rIsN .non .non H Q := ⟨rfl, by rw [decide_eq_true rfl]; exact q⟩
end
end CP

set_option Elab.async false
set_option linter.all false
set_option maxRecDepth 100000
set_option maxHeartbeats 4000000
set_option autoImplicit false
/-! lists of counts as values -/
namespace CP
open L2 PySem PyProof.Rows
theorem take_succ {α : Type} {l : List α} {i : Nat} {n : α} (h : l[i]? = some n) : l.take (i + 1) = l.take i ++ [n] := by
  rw [List.take_add_one, h]
  rfl
end CP

set_option Elab.async false
set_option linter.all false
set_option maxRecDepth 100000
set_option maxHeartbeats 4000000
/-! sets of ints and of texts made of a list; sorted(set(list)) -/
namespace CP
open PySem L2

/-- the object of a set just made -/
abbrev set0 (w : World) : Obj := { cls := .type "set", dict := none, data := .set #[] 0 (.fresh 0 0 (!w.params.followText "set-order")) }
abbrev lit0 (l : Addr) : Obj := { cls := .type "list_iterator", data := .fields #[.ref l, .int 0 0] }
section
variable {P : Program} {w : World} {A : Around} {E : Value → Shared → Prop} {s : Shared} {Fin : Heap → Prop}
set_option maxRecDepth 100000 in
set_option maxHeartbeats 4000000 in
/-- set(l), l a list: its loop is what the caller says (it leaves the set as Fin tells) -/
theorem set_of_list {l : Addr} {items : Array Value} {Q : Value → Shared → Prop} (hl : s.heap.IsList l items)
    (loop : ∀ (A' : Around) (R : Result → Shared → Prop) (s1 : Shared), A'.handled = A.handled → s1.heap = (s.heap.push (set0 w)).push (lit0 l) →
      (∀ s', Moved [s.heap.objs.size, s.heap.objs.size + 1] (fun a b => b = a) s1 s' → Fin s'.heap → R (.ok (.ret .none)) s') →
      codeAny (model P w) A' (.builtin "set.update.loop" ⟨[.ref s.heap.objs.size, .ref (s.heap.objs.size + 1)], []⟩) R s1)
    (h : ∀ (h' : Heap) (tk : Nat), Fin h' → (∀ b o, s.heap.get? b = some o → h'.get? b = some o) → Q (.ref s.heap.objs.size) { s with heap := h', toks := tk }) :
    wpAny (model P w) A (call (.type "set") [.ref l]) Q E s := by
  have f1 := F.called_set.made
  have f2 := F.called_set.sub
  have f3 := F.called_set.notType
  have f4 := F.called_set.canCreate
  have f5 := F.typeCall_set_1 (.ref l)
  obtain ⟨cn, tl, f6⟩ := F.called_set.mro
  refine wpAny_call (codeAny_of_tree ?_)
  show wpAny _ _ (callAny (.type "set") _) _ _ _
  have e0 := weight_type_call_type "set" [.ref l] []
  refine wpAny_pure ⟨Code.quiet_builtin _ (by decide +kernel),
    codeAny_builtin F.entry_type_call ?_⟩
  rw [Around.under_plain e0 rfl]
  repeat (any_goals (first | assumption | wp_step))
  refine codeAny_mono (code_set_led1 (.ref l) (E := E)
    (Q₁ := fun v s₁ => v = .ref s.heap.objs.size ∧ s₁ = { s with heap := s.heap.push (set0 w) }) ⟨rfl, rfl⟩) fun r s₁ hr => ?_
  cases r with
  | error e => exact hr
  | ok fl =>
    cases fl with
    | ret obj =>
      obtain ⟨rfl, rfl⟩ := hr
      have g0 : (s.heap.push (set0 w)).get? s.heap.objs.size = some (set0 w) := Heap.get?_push_size _ rfl
      have gT : Shared.TypeIs { s with heap := s.heap.push (set0 w) } (.ref s.heap.objs.size) "set" := ⟨_, g0, rfl⟩
      have f7 := F.called_set.init.lookup
      have f8 := F.called_set.init.bind (.ref s.heap.objs.size)
      repeat (any_goals (first | assumption | wp_step))
      refine codeAny_mono (codeAny_call_builtin
        (R := wants (fun r s₂ => r = .none ∧ ∃ h' tk, s₂ = { s with heap := h', toks := tk } ∧ Fin h' ∧ ∀ b o, s.heap.get? b = some o → h'.get? b = some o) E)
        F.called_set.init.plain F.entry_set_init (check_set_init_1 gT ?_)) fun r₂ s₂ hr₂ => ?_
      · obtain ⟨ol, hol, hcl, nl, hdl⟩ := hl
        obtain ⟨c1, c2, c3, c4⟩ := ol
        simp only at hcl hdl
        subst hcl; subst hdl
        have hol' : (s.heap.push (set0 w)).get? l = some { cls := .type "list", dict := c2, data := .seq items nl, slots := c4 } := Heap.get?_push_of_some _ hol
        have u1 := F.sub_list_set
        have u2 := F.sub_list_frozenset
        have u3 : (Value.type "list" == Value.type "dict") = false := by decide
        have hl1 : (s.heap.push (set0 w)).IsList l items := ⟨_, hol', rfl, nl, rfl⟩
        clear f1 f2 f3 f4 f5 f6 f7 f8 e0 g0 gT h
        unfold Builtin.«set.__init__» noKeywords Builtin.Frozenset.updateFrom
        generalize hPI : pyIter = PI
        wp_walk
        subst hPI
        refine wpAny_pyIter_list hl1 ?_
        refine wpAny_bind (wpAny_runValue ?_)
        have z1 : (s.heap.push (set0 w)).objs.size = s.heap.objs.size + 1 := Heap.size_push ..
        rw [z1]
        refine loop _ _ _ (by simp) rfl fun s' hm hF => ?_
        obtain ⟨h', g2, d', tk', os'⟩ := s'
        have q1 : g2 = s.gens := hm.gens
        have q2 : d' = s.drawn := hm.drawn
        have q3 : os' = s.os := hm.os
        subst q1; subst q2; subst q3
        show wpAny _ _ _ _ _ _
        refine wpAny_pure ?_
        show wpAny _ _ (ret Value.none) _ _ _
        refine wpAny_pure ⟨rfl, h', tk', rfl, hF, fun b o e => ?_⟩
        have lt := Heap.lt_size e
        refine hm.heap b o (fun z => ?_) (Heap.get?_push_of_some _ (Heap.get?_push_of_some _ e))
        rcases List.mem_cons.mp z with z | z
        · exact absurd z (Nat.ne_of_lt lt)
        · exact absurd (List.mem_singleton.mp z) (Nat.ne_of_lt (Nat.lt_succ_of_lt lt))
      · cases r₂ with
        | error e => exact hr₂
        | ok fl₂ =>
          cases fl₂ with
          | ret r =>
            obtain ⟨rfl, h', tk, rfl, hF, hk⟩ := hr₂
            repeat (any_goals (first | assumption | wp_step))
            exact h _ _ hF hk
          | _ => exact hr₂.elim
    | _ => exact hr.elim
end
end CP

set_option Elab.async false
set_option linter.all false
set_option maxRecDepth 100000
set_option maxHeartbeats 4000000
/-! sets of ints made of a list; sorted(set(list)) -/
namespace CP
open PySem L2
section
variable {P : Program} {w : World} {A : Around} {E : Value → Shared → Prop} {s : Shared}
end
section
variable {X : Cx}
end
end CP

set_option Elab.async false
set_option linter.all false
set_option maxRecDepth 100000
set_option maxHeartbeats 4000000
set_option autoImplicit false
/-! calls with keywords alone; what a call with keywords binds -/
namespace CP
open L2 PySem PyProof.Rows

def tCallW (m : Nat) (sp : Sp) (gV : List V → List V) (E : XK) (tk : TA) : TE := fun σ H Q => tk σ H fun zs H2 => zs.length = m ∧ sp (gV zs) H2 Q E
/-- the keywords' values in the parameters' order -/
structure KB0 (K : PySem.W.Frag) (fd : FuncData) (ps ks : List Str) (g : List Value → List Value) (gV : List V → List V) : Prop where
  to : ∀ (s : Shared) (ws : List Value), K.In s.heap → ws.length = ks.length → BindsTo s fd ⟨[], ks.zip ws⟩ (ps.zip (g ws))
  rel : ∀ {zs : List V} {ws : List Value}, Vals zs ws → zs.length = ks.length → Vals (gV zs) (g ws)
section
variable {X : Cx} {CX : CXT} {k m : Nat} {f : Addr} {fd : FuncData} {ps ks : List Str} {sp : Sp} {E : XK} {x : Str} {p pos : Pos} {kws : List Keyword} {tk : TA} {g : List Value → List Value} {gV : List V → List V}
end
section
variable {σ : L2.St} {H : Hp} {Q : VK} {m : Nat} {sp : Sp} {gV : List V → List V} {E : XK} {tk : TA}
theorem r_callW (q : tk σ H fun zs H2 => zs.length = m ∧ sp (gV zs) H2 Q E) : tCallW m sp gV E tk σ H Q := q
end
/-- positional values first, then keywords; no defaults -/
theorem Fun.kbn {K : PySem.W.Frag} {x qual : Str} {st : Stmt} {f : Addr} {fd : FuncData} {ps ks : List Str} {n : Nat} {g : List Value → List Value → List Value} {gV : List V → List V → List V} (F : Fun K x qual st f fd)
    (h : ∀ (kV doc pm : Value) (an : Option Addr) (cdv ct : Value) (us ws : List Value), us.length = n → ws.length = ks.length → bindArgs (PySem.W.fnOf x qual (defArgs st) (defBody st) (defScope st) .none kV doc pm an cdv ct) ⟨us, ks.zip ws⟩ = pure (ps.zip (g us ws)))
    (hr : ∀ {vs : List V} {us : List Value} {zs : List V} {ws : List Value}, Vals vs us → Vals zs ws → Vals (gV vs zs) (g us ws)) : KBn K fd ps n ks g gV := by
  obtain ⟨oc, od, kV, doc, pm, an, cdv, ct, osl, rfl, lk, hcd⟩ := F.ex
  exact ⟨fun s us ws _ l1 l2 => .of_eq (h kV doc pm an cdv ct us ws l1 l2), hr⟩
end CP

set_option Elab.async false
set_option linter.all false
set_option maxRecDepth 100000
set_option maxHeartbeats 4000000
set_option autoImplicit false
/-! comprehensions whose elements are told one by one, new objects among them -/
namespace CP
open L2 PySem PyProof.Rows
/-- the heap without one object -/
def hide (D : Addr) (H : Hp) : Hp := fun b => if b = D then none else H b
theorem hide_ne {D b : Addr} {H : Hp} (h : b ≠ D) : hide D H b = H b := if_neg h
theorem hide_same {D : Addr} {H : Hp} : Same (hide D H) H := fun b o h => by
  unfold hide at h
  split at h
  · cases h
  · exact h
theorem hide_upd {D : Addr} {H : Hp} {o : HO} : hide D (upd H D o) = hide D H := funext fun b => by
  unfold hide
  by_cases e : b = D
  · rw [if_pos e, if_pos e]
  · rw [if_neg e, if_neg e, upd_ne e]
theorem hide_mono {D : Addr} {H H' : Hp} (s : Same H H') : Same (hide D H) (hide D H') := fun b o h => by
  unfold hide at h ⊢
  by_cases e : b = D
  · rw [if_pos e] at h; cases h
  · rw [if_neg e] at h; rw [if_neg e]; exact s b o h
theorem hide_none {D : Addr} {H : Hp} (h : H D = none) : hide D H = H := funext fun b => by
  unfold hide
  by_cases e : b = D
  · rw [if_pos e, e, h]
  · rw [if_neg e]
theorem pd_mono {α β : Type} {R R' : α → β → Prop} {xs : List α} {ys : List β} (h : Paired R xs ys) (m : ∀ a b, R a b → R' a b) : Paired R' xs ys := by
  induction h with
  | nil => exact .nil
  | cons h _ ih => exact .cons (m _ _ h) ih
theorem pd_len {α β : Type} {R : α → β → Prop} {xs : List α} {ys : List β} (h : Paired R xs ys) : xs.length = ys.length := by
  induction h with
  | nil => rfl
  | cons _ _ ih => rw [List.length_cons, List.length_cons, ih]
theorem pd_app {α β : Type} {R : α → β → Prop} {xs xs' : List α} {ys ys' : List β} (h : Paired R xs ys) (h' : Paired R xs' ys') : Paired R (xs ++ xs') (ys ++ ys') := by
  induction h with
  | nil => exact h'
  | cons h _ ih => exact .cons h ih
theorem pd_one {α β : Type} {R : α → β → Prop} {x : α} {y : β} (h : R x y) : Paired R [x] [y] := .cons h .nil
theorem pd_get {α β : Type} {R : α → β → Prop} {xs : List α} {ys : List β} (h : Paired R xs ys) {i : Nat} {x : α} (e : xs[i]? = some x) : ∃ y, ys[i]? = some y ∧ R x y := by
  induction h generalizing i with
  | nil => cases e
  | cons h _ ih =>
    cases i with
    | zero => cases e; exact ⟨_, rfl, h⟩
    | succ i => exact ih (i := i) e
theorem pd_eq {α : Type} {xs ys : List α} (h : Paired (fun a b => a = b) xs ys) : xs = ys := by
  induction h with
  | nil => rfl
  | cons h _ ih => rw [h, ih]
theorem same_seqT {K : PySem.W.Frag} {H H' : Hp} {a : Addr} {xs : List V} (s : Same H H') (h : SqT K H a xs) : SqT K H' a xs := by
  rcases h with (z | ⟨o, z⟩) | z
  · exact .inl (.inl (s _ _ z))
  · exact .inl (.inr ⟨o, s _ _ z⟩)
  · exact .inr z
section
variable {β : Type} {K : PySem.W.Frag} {a : Addr} {xs : List V} {g : TG} {tt : TT} {te : TE} {vs : List Nat} {σ : L2.St} {H1 : Hp} {D : Addr} {Qd : Hp → Prop}
/-- the state behind i turns -/
def Acc (R : Hp → V → β → Prop) (H1 : Hp) (D : Addr) (ys : List (Option β)) (i : Nat) (H : Hp) : Prop := Same H1 H ∧ ∃ acc, H D = some (.lst acc) ∧ Paired (R (hide D H)) acc ((ys.take i).filterMap id)
theorem acc_zero {R : Hp → V → β → Prop} {ys : List (Option β)} (hD : H1 D = none) : Acc R H1 D ys 0 (upd H1 D (.lst [])) := ⟨same_new hD, [], upd_same, by rw [List.take_zero]; exact .nil⟩
theorem acc_no {R : Hp → V → β → Prop} (mono : ∀ H H' v b, Same H H' → R H v b → R H' v b) {ys : List (Option β)} {i : Nat} {H H' : Hp} (p : Acc R H1 D ys i H) (h : ys[i]? = some none) (s : Same H H') : Acc R H1 D ys (i + 1) H' := by
  obtain ⟨s1, acc, e, pr⟩ := p
  refine ⟨s1.trans s, acc, CP.Same.to s e, ?_⟩
  rw [List.take_add_one, h]
  simp only [Option.toList_some, List.filterMap_append, List.filterMap_cons, id_eq, List.filterMap_nil, List.append_nil]
  exact pd_mono pr fun v b => mono _ _ v b (hide_mono s)
theorem acc_yes {R : Hp → V → β → Prop} (mono : ∀ H H' v b, Same H H' → R H v b → R H' v b) {ys : List (Option β)} {i : Nat} {z : β} {H H' : Hp} {y : V} (hD : H1 D = none) (hz : ys.length < sizeLine) (p : Acc R H1 D ys i H) (h : ys[i]? = some (some z)) (s : Same H H') (r : R (hide D H') y z) :
    ∃ acc, H' D = some (.lst acc) ∧ acc.length < sizeLine ∧ Acc R H1 D ys (i + 1) (upd H' D (.lst (acc ++ [y]))) := by
  obtain ⟨s1, acc, e, pr⟩ := p
  refine ⟨acc, CP.Same.to s e, ?_, CP.Same.sb (s1.trans s) hD sb_upd, acc ++ [y], upd_same, ?_⟩
  · rw [pd_len pr]
    refine Nat.lt_of_le_of_lt (List.length_filterMap_le ..) ?_
    rw [List.length_take]
    omega
  · rw [List.take_add_one, h, hide_upd]
    simp only [Option.toList_some, List.filterMap_append, List.filterMap_cons, id_eq, List.filterMap_nil]
    exact pd_app (pd_mono pr fun v b => mono _ _ v b (hide_mono s)) (pd_one r)
theorem acc_end {R : Hp → V → β → Prop} (mono : ∀ H H' v b, Same H H' → R H v b → R H' v b) {ys : List (Option β)} {H : Hp} (p : Acc R H1 D ys ys.length H) : Same H1 H ∧ ∃ acc, H D = some (.lst acc) ∧ Paired (R H) acc (ys.filterMap id) := by
  obtain ⟨s1, acc, e, pr⟩ := p
  rw [List.take_length] at pr
  exact ⟨s1, acc, e, pd_mono pr fun v b => mono _ _ v b hide_same⟩
/-- one turn: what has to be shown of it -/
def Turn (g : TG) (tt : TT) (te : TE) (vs : List Nat) (σ : L2.St) (R : Hp → V → β → Prop) (D : Addr) (H : Hp) (x : V) (o : Option β) : Prop :=
  ∀ N : Hp → Prop, (∀ H', o = none → Same H H' → N H') → (∀ H' y z, o = some z → Same H H' → R (hide D H') y z → ∃ acc, H' D = some (.lst acc) ∧ acc.length < sizeLine ∧ N (upd H' D (.lst (acc ++ [y])))) →
    g x (wipe σ vs) H fun σ2 H2 => wipe σ2 vs = wipe σ vs ∧ tt σ2 H2 fun b H3 => if b = true then te σ2 H3 fun y H4 => ∃ acc, H4 D = some (.lst acc) ∧ acc.length < sizeLine ∧ N (upd H4 D (.lst (acc ++ [y]))) else N H3
theorem turn_of {R : Hp → V → β → Prop} (mono : ∀ H H' v b, Same H H' → R H v b → R H' v b) {ys : List (Option β)} (hD : H1 D = none) (hz : ys.length < sizeLine) {i : Nat} {H : Hp} {x : V} {o : Option β} (p : Acc R H1 D ys i H) (h : ys[i]? = some o) (t : Turn g tt te vs σ R D H x o) :
    g x (wipe σ vs) H fun σ2 H2 => wipe σ2 vs = wipe σ vs ∧ tt σ2 H2 fun b H3 => if b = true then te σ2 H3 fun y H4 => ∃ acc, H4 D = some (.lst acc) ∧ acc.length < sizeLine ∧ Acc R H1 D ys (i + 1) (upd H4 D (.lst (acc ++ [y]))) else Acc R H1 D ys (i + 1) H3 :=
  t _ (fun H' e s => acc_no mono p (by rw [h, e]) s) fun H' y z e s r => acc_yes mono hD hz p (by rw [h, e]) s r
/-- over a list that stands -/
theorem lc_tell (R : Hp → V → β → Prop) (ys : List (Option β)) (hD : H1 D = none) (ha : SqL K H1 a xs) (hl : xs.length = ys.length) (hz : ys.length < sizeLine) (mono : ∀ H H' v b, Same H H' → R H v b → R H' v b)
    (hs : ∀ (i : Nat) (x : V) (o : Option β) (H : Hp), xs[i]? = some x → ys[i]? = some o → Same H1 H → (∃ acc, H D = some (.lst acc)) → Turn g tt te vs σ R D H x o)
    (hd : ∀ H acc, Same H1 H → H D = some (.lst acc) → Paired (R H) acc (ys.filterMap id) → Qd H) :
    ∃ W : Nat → Nat → Hp → Prop, (∃ m, W 0 m (upd H1 D (.lst []))) ∧ ∀ i m H, W i m H →
      ((Itl K a).stop i H ∧ Qd H) ∨ ((Itl K a).go i H ∧ ∃ Nx : Hp → Prop, (∀ H', Nx H' → ∃ m', m' < m ∧ W (i + 1) m' H') ∧ ∀ x H', (Itl K a).yld i H x H' → g x (wipe σ vs) H' fun σ2 H2 => wipe σ2 vs = wipe σ vs ∧ tt σ2 H2 fun b H3 =>
        if b = true then te σ2 H3 fun y H4 => ∃ acc, H4 D = some (.lst acc) ∧ acc.length < sizeLine ∧ Nx (upd H4 D (.lst (acc ++ [y]))) else Nx H3) := by
  refine lc_list (K := K) (a := a) (xs := xs) (Acc R H1 D ys) (acc_zero hD) (fun i H _ w => L2.Same.seq w.1 ha) (fun i x H hx p => ?_) fun H p => ?_
  · have hi : i < ys.length := by rw [← hl]; exact (List.getElem?_eq_some_iff.mp hx).1
    exact turn_of mono hD hz p (List.getElem?_eq_getElem hi) (hs i x _ H hx (List.getElem?_eq_getElem hi) p.1 (p.2.imp fun _ z => z.1))
  · rw [hl] at p
    obtain ⟨s, acc, e, pr⟩ := acc_end mono p
    exact hd H acc s e pr
theorem lc_tellT (R : Hp → V → β → Prop) (ys : List (Option β)) (hD : H1 D = none) (ha : SqT K H1 a xs) (hl : xs.length = ys.length) (hz : ys.length < sizeLine) (mono : ∀ H H' v b, Same H H' → R H v b → R H' v b)
    (hs : ∀ (i : Nat) (x : V) (o : Option β) (H : Hp), xs[i]? = some x → ys[i]? = some o → Same H1 H → (∃ acc, H D = some (.lst acc)) → Turn g tt te vs σ R D H x o)
    (hd : ∀ H acc, Same H1 H → H D = some (.lst acc) → Paired (R H) acc (ys.filterMap id) → Qd H) :
    ∃ W : Nat → Nat → Hp → Prop, (∃ m, W 0 m (upd H1 D (.lst []))) ∧ ∀ i m H, W i m H →
      ((Itt K a).stop i H ∧ Qd H) ∨ ((Itt K a).go i H ∧ ∃ Nx : Hp → Prop, (∀ H', Nx H' → ∃ m', m' < m ∧ W (i + 1) m' H') ∧ ∀ x H', (Itt K a).yld i H x H' → g x (wipe σ vs) H' fun σ2 H2 => wipe σ2 vs = wipe σ vs ∧ tt σ2 H2 fun b H3 =>
        if b = true then te σ2 H3 fun y H4 => ∃ acc, H4 D = some (.lst acc) ∧ acc.length < sizeLine ∧ Nx (upd H4 D (.lst (acc ++ [y]))) else Nx H3) := by
  refine lc_tup (K := K) (a := a) (xs := xs) (Acc R H1 D ys) (acc_zero hD) (fun i H _ w => same_seqT w.1 ha) (fun i x H hx p => ?_) fun H p => ?_
  · have hi : i < ys.length := by rw [← hl]; exact (List.getElem?_eq_some_iff.mp hx).1
    exact turn_of mono hD hz p (List.getElem?_eq_getElem hi) (hs i x _ H hx (List.getElem?_eq_getElem hi) p.1 (p.2.imp fun _ z => z.1))
  · rw [hl] at p
    obtain ⟨s, acc, e, pr⟩ := acc_end mono p
    exact hd H acc s e pr
/-- over a text -/
theorem lc_tellS {z : Str} (R : Hp → V → β → Prop) (ys : List (Option β)) (hD : H1 D = none) (hl : z.cps.size = ys.length) (hz : ys.length < sizeLine) (mono : ∀ H H' v b, Same H H' → R H v b → R H' v b)
    (hs : ∀ (i : Nat) (c : Nat) (o : Option β) (H : Hp), z.cps[i]? = some c → ys[i]? = some o → Same H1 H → (∃ acc, H D = some (.lst acc)) → Turn g tt te vs σ R D H (.str ⟨#[c]⟩) o)
    (hd : ∀ H acc, Same H1 H → H D = some (.lst acc) → Paired (R H) acc (ys.filterMap id) → Qd H) :
    ∃ W : Nat → Nat → Hp → Prop, (∃ m, W 0 m (upd H1 D (.lst []))) ∧ ∀ i m H, W i m H →
      ((Its z).stop i H ∧ Qd H) ∨ ((Its z).go i H ∧ ∃ Nx : Hp → Prop, (∀ H', Nx H' → ∃ m', m' < m ∧ W (i + 1) m' H') ∧ ∀ x H', (Its z).yld i H x H' → g x (wipe σ vs) H' fun σ2 H2 => wipe σ2 vs = wipe σ vs ∧ tt σ2 H2 fun b H3 =>
        if b = true then te σ2 H3 fun y H4 => ∃ acc, H4 D = some (.lst acc) ∧ acc.length < sizeLine ∧ Nx (upd H4 D (.lst (acc ++ [y]))) else Nx H3) := by
  refine ⟨fun i m H => m = ys.length - i ∧ i ≤ ys.length ∧ Acc R H1 D ys i H, ⟨ys.length, by simp, Nat.zero_le _, acc_zero hD⟩, ?_⟩
  rintro i m H ⟨rfl, hi, p⟩
  by_cases lt : i < ys.length
  · refine .inr ⟨(by rw [hl]; exact lt : i < z.cps.size), Acc R H1 D ys (i + 1), fun H' p' => ⟨ys.length - (i + 1), by omega, rfl, lt, p'⟩, fun x H' y => ?_⟩
    obtain ⟨rfl, c, hc, rfl⟩ := y
    exact turn_of mono hD hz p (List.getElem?_eq_getElem lt) (hs i c _ _ hc (List.getElem?_eq_getElem lt) p.1 (p.2.imp fun _ z => z.1))
  · have e : i = ys.length := by omega
    subst e
    obtain ⟨s, acc, e, pr⟩ := acc_end mono p
    exact .inl ⟨(by rw [hl]; exact Nat.le_refl _ : z.cps.size ≤ ys.length), hd H acc s e pr⟩
theorem lc_noneL {xs : List V} (hD : H1 D = none) (ha : SqL K H1 a xs) (hz : xs.length < sizeLine)
    (hs : ∀ (i : Nat) (x : V) (H : Hp), xs[i]? = some x → Same H1 H → Turn (β := V) g tt te vs σ (fun _ x b => x = b) D H x none) (hd : ∀ H, Same H1 H → H D = some (.lst []) → Qd H) :
    ∃ W : Nat → Nat → Hp → Prop, (∃ m, W 0 m (upd H1 D (.lst []))) ∧ ∀ i m H, W i m H →
      ((Itl K a).stop i H ∧ Qd H) ∨ ((Itl K a).go i H ∧ ∃ Nx : Hp → Prop, (∀ H', Nx H' → ∃ m', m' < m ∧ W (i + 1) m' H') ∧ ∀ x H', (Itl K a).yld i H x H' → g x (wipe σ vs) H' fun σ2 H2 => wipe σ2 vs = wipe σ vs ∧ tt σ2 H2 fun b H3 =>
        if b = true then te σ2 H3 fun y H4 => ∃ acc, H4 D = some (.lst acc) ∧ acc.length < sizeLine ∧ Nx (upd H4 D (.lst (acc ++ [y]))) else Nx H3) := by
  refine lc_tell (β := V) (fun _ x b => x = b) (xs.map fun _ => none) hD ha (by rw [List.length_map]) (by rw [List.length_map]; exact hz) (fun _ _ _ _ _ z => z) (fun i x o H hx ho s1 _ => ?_) fun H acc s1 hacc pp => ?_
  · have e : o = none := by
      rw [List.getElem?_map, hx] at ho
      exact (Option.some.inj ho).symm
    subst e
    exact hs i x H hx s1
  · have e : acc = [] := by
      rw [pd_eq pp]
      clear pp hs hz ha
      induction xs with
      | nil => rfl
      | cons _ xs ih => exact ih
    subst e
    exact hd H s1 hacc
theorem lc_valsL {xs : List V} (ys : List V) (hD : H1 D = none) (ha : SqL K H1 a xs) (hl : xs.length = ys.length) (hz : ys.length < sizeLine)
    (hs : ∀ (i : Nat) (x y : V) (H : Hp), xs[i]? = some x → ys[i]? = some y → Same H1 H → Turn (β := V) g tt te vs σ (fun _ x b => x = b) D H x (some y)) (hd : ∀ H, Same H1 H → H D = some (.lst ys) → Qd H) :
    ∃ W : Nat → Nat → Hp → Prop, (∃ m, W 0 m (upd H1 D (.lst []))) ∧ ∀ i m H, W i m H →
      ((Itl K a).stop i H ∧ Qd H) ∨ ((Itl K a).go i H ∧ ∃ Nx : Hp → Prop, (∀ H', Nx H' → ∃ m', m' < m ∧ W (i + 1) m' H') ∧ ∀ x H', (Itl K a).yld i H x H' → g x (wipe σ vs) H' fun σ2 H2 => wipe σ2 vs = wipe σ vs ∧ tt σ2 H2 fun b H3 =>
        if b = true then te σ2 H3 fun y H4 => ∃ acc, H4 D = some (.lst acc) ∧ acc.length < sizeLine ∧ Nx (upd H4 D (.lst (acc ++ [y]))) else Nx H3) := by
  refine lc_tell (β := V) (fun _ x b => x = b) (ys.map some) hD ha (by rw [List.length_map]; exact hl) (by rw [List.length_map]; exact hz) (fun _ _ _ _ _ z => z) (fun i x o H hx ho s1 _ => ?_) fun H acc s1 hacc pp => ?_
  · rw [List.getElem?_map] at ho
    cases ey : ys[i]? with
    | none => rw [ey] at ho; cases ho
    | some y =>
      rw [ey] at ho
      cases ho
      exact hs i x y H hx ey s1
  · have e : acc = ys := by
      rw [pd_eq pp, List.filterMap_map]
      exact List.filterMap_some
    subst e
    exact hd H s1 hacc
theorem r_yes {σ : L2.St} {H : Hp} {Q : Bool → Hp → Prop} (q : Q true H) : tYes σ H Q := q
end
end CP

set_option Elab.async false
set_option linter.all false
set_option maxRecDepth 100000
set_option maxHeartbeats 4000000
set_option autoImplicit false
/-! dicts whose keys are numbers and texts: one step at a time -/
namespace CP
open L2 PySem PyProof.Rows
section
variable {K : PySem.W.Frag} {σ : L2.St} {H : Hp} {Q : VK} {d : Addr} {kvs : List (Key × V)} {v : V} {i : Int} {z : Str} {td ty tv : TE}
theorem r_tdni (q : ty σ H fun y H1 => td σ H1 fun x H2 => ∃ a o, x = .ref a ∧ DGet H2 a y o ∧ Q (.bl (!o.isSome)) H2) : tDNotIn ty td σ H Q := q
theorem r_tdin (q : ty σ H fun y H1 => td σ H1 fun x H2 => ∃ a o, x = .ref a ∧ DGet H2 a y o ∧ Q (.bl o.isSome) H2) : tDIn ty td σ H Q := q
theorem r_tdget (q : td σ H fun x H1 => ty σ H1 fun y H2 => ∃ a v, x = .ref a ∧ DGet H2 a y (some v) ∧ Q v H2) : tDGet td ty σ H Q := q
theorem r_lookI {P : Option V → Prop} (h : H d = some (.dK kvs)) (q : P (valV kvs (Sum.inl i))) : ∃ a o, V.ref d = .ref a ∧ DGet H a (.int i) o ∧ P o := ⟨d, _, rfl, DGet.k (k := Sum.inl i) h, q⟩
theorem r_lookS {P : Option V → Prop} (h : H d = some (.dK kvs)) (q : P (valV kvs (Sum.inr z))) : ∃ a o, V.ref d = .ref a ∧ DGet H a (.str z) o ∧ P o := ⟨d, _, rfl, DGet.k (k := Sum.inr z) h, q⟩
theorem r_dgetS {P : V → Prop} (h : H d = some (.dK kvs)) (e : valV kvs (Sum.inr z) = some v) (q : P v) : ∃ a v, V.ref d = .ref a ∧ DGet H a (.str z) (some v) ∧ P v := ⟨d, v, rfl, e ▸ DGet.k (k := Sum.inr z) h, q⟩
theorem r_dget2I {P : Option V → Prop} (h : H d = some (.dK kvs)) (q : P (valV kvs (Sum.inl i))) : ∃ o, DGet H d (.int i) o ∧ P o := ⟨_, DGet.k (k := Sum.inl i) h, q⟩
theorem r_dget2S {P : Option V → Prop} (h : H d = some (.dK kvs)) (q : P (valV kvs (Sum.inr z))) : ∃ o, DGet H d (.str z) o ∧ P o := ⟨_, DGet.k (k := Sum.inr z) h, q⟩
theorem r_isD {P : Addr → Prop} (h : H d = some (.dK kvs)) (q : P d) : ∃ a, V.ref d = .ref a ∧ IsD H a ∧ P a := ⟨d, rfl, .inl ⟨_, .inl h⟩, q⟩
theorem r_dputS {N : Hp → Prop} (h : H d = some (.dK kvs)) (l : kvs.length < sizeLine) (q : ∀ H', SB d H H' → H' d = some (.dK (putK kvs (Sum.inr z) v)) → N H') : ∃ a H', V.ref d = .ref a ∧ DPut H a (.str z) v H' ∧ N H' :=
  ⟨d, _, rfl, .inl ⟨kvs, Sum.inr z, h, rfl, l, rfl⟩, q _ sb_upd upd_same⟩
end
end CP

set_option Elab.async false
set_option linter.all false
set_option maxRecDepth 100000
set_option maxHeartbeats 4000000
/-! sets of texts: made of a list, sorted -/
namespace CP
open PySem L2 PySem.Spec PyProof.Rows
def txtOf (e : Int × Value) : Str := match e.2 with | .str x _ => x | _ => Str.empty
def TxtE (w : World) (e : Int × Value) : Prop := ∃ x tk, e.2 = Value.str x tk ∧ e.1 = hashStr w x
abbrev tkd (P : Program) (w : World) := PySem.strKind P w
/-- the set of texts at a: T its members, n how many; its table can be walked -/
def SetT (w : World) (h : Heap) (a : Addr) (T : Str → Bool) (n : Nat) : Prop :=
  ∃ o es ep tb, h.get? a = some o ∧ o.ExactSet ∧ o.data = .set es ep tb ∧ (∀ e ∈ es.toList, TxtE w e) ∧ (es.toList.map txtOf).Nodup ∧ (∀ x, T x = true ↔ x ∈ es.toList.map txtOf) ∧
    es.size < scanBound ∧ tb.fits es.size = true ∧ es.size = n ∧ Ris tb.place.toList ∧ (w.params.followText "set-order" = true ∨ tb.led = true)
section
variable {P : Program} {w : World} {h h' : Heap} {a : Addr} {T : Str → Bool} {n : Nat}
theorem SetT.there (R : SetT w h a T n) (k : ∀ o, h.get? a = some o → h'.get? a = some o) : SetT w h' a T n := by
  obtain ⟨o, es, ep, tb, got, more⟩ := R
  exact ⟨o, es, ep, tb, k o got, more⟩
theorem SetT.same {T' : Str → Bool} (R : SetT w h a T n) (e : ∀ x, T' x = T x) : SetT w h a T' n := (funext e : T' = T) ▸ R
theorem txt_elems {l : List (Int × Value)} (g : ∀ e ∈ l, TxtE w e) : ElemsOf (tkd P w) l := fun e he => by
  obtain ⟨x, tk, h1, h2⟩ := g e he
  exact ⟨⟨x, by rw [h1]; exact strKind_is P w x tk, h2⟩, by rw [h1] <;> rfl⟩
theorem txt_is {e : Int × Value} (g : TxtE w e) (x : Str) : (tkd P w).is x e.2 = true ↔ txtOf e = x := by
  obtain ⟨y, tk, h1, _⟩ := g
  unfold txtOf
  rw [h1]
  show ((y == x) = true) ↔ y = x
  exact beq_iff_eq
theorem txt_mem {l : List (Int × Value)} (g : ∀ e ∈ l, TxtE w e) (x : Str) : x ∈ l.map txtOf ↔ ∃ e ∈ l, (tkd P w).is x e.2 = true := by
  rw [List.mem_map]
  exact ⟨fun ⟨e, he, q⟩ => ⟨e, he, (txt_is (g e he) x).2 q⟩, fun ⟨e, he, q⟩ => ⟨e, he, (txt_is (g e he) x).1 q⟩⟩
end
section
variable {P : Program} {w : World} {A : Around} {E : Value → Shared → Prop} {s : Shared} {a : Addr} {T : Str → Bool} {n : Nat}
theorem tail_txt {gv : Bool → Sem Unit} (hgv : ∀ (b : Bool) (t : Shared) (J : Unit → Shared → Prop), J () t → wpAny (model P w) A (gv b) J E t)
    {o : Obj} {es : Array (Int × Value)} {ep : Nat} {tb : SetTable} (got : s.heap.get? a = some o) (ex : o.ExactSet) (dat : o.data = .set es ep tb)
    {fs : Array (Int × Value)} {tc : SetTable} {T' : Str → Bool} (ent : ∀ e ∈ fs.toList, TxtE w e) (dis : (fs.toList.map txtOf).Nodup) (mem : ∀ x, T' x = true ↔ x ∈ fs.toList.map txtOf)
    (below : fs.size < scanBound) (fit : tc.fits fs.size = true) (ris : Ris tc.place.toList) (led : w.params.followText "set-order" = true ∨ tc.led = true) {dum : Bool} {R : Option Bool → Shared → Prop}
    (fin : ∀ h', Heap.SameBut a s.heap h' → SetT w h' a T' fs.size → R (some true) { s with heap := h' }) :
    wpAny (model P w) A (do
        storeSet a fs tc
        if (!dum && tc.tooFull) = true then do
            gv (relayAll tc fs (SetTable.grown fs.size)).2.2
            storeSet a (relayAll tc fs (SetTable.grown fs.size)).1 (relayAll tc fs (SetTable.grown fs.size)).2.1
            pure (some true)
          else pure (some true)) R E s := by
  refine wpAny_bind (wpAny_storeSet_of got dat ?_ (fits_of_scanBound below))
  have got1 := store_at (es' := fs) (t' := tc) got dat
  have but1 := Heap.SameBut.update s.heap a (Obj.putSet fs tc)
  split
  · have z1 := relayAll_perm tc fs (SetTable.grown fs.size)
    have z2 := relayAll_fits tc fs (SetTable.grown fs.size)
    have z3 := relayAll_ris tc fs (SetTable.grown fs.size)
    have z4 := relayAll_led tc fs (SetTable.grown fs.size)
    generalize relayAll tc fs (SetTable.grown fs.size) = W at z1 z2 z3 z4 ⊢
    obtain ⟨gs, td, gave⟩ := W
    dsimp only at z1 z2 z3 z4 ⊢
    have size : gs.size = fs.size := by rw [← Array.length_toList, z1.length_eq, Array.length_toList]
    refine wpAny_bind (hgv _ _ _ ?_)
    refine wpAny_bind (wpAny_storeSet_of got1 rfl ?_ (fits_of_scanBound (by rw [size]; exact below)))
    have got2 := store_at (es' := gs) (t' := td) got1 rfl
    refine wpAny_pure (fin _ (but1.trans (Heap.SameBut.update _ a _)) ⟨_, gs, _, td, got2, ex, rfl, fun e he => ent e (z1.mem_iff.mp he), (z1.map txtOf).nodup_iff.mpr dis, fun x => (mem x).trans (z1.map txtOf).mem_iff.symm, by rw [size]; exact below, z2, size, z3, ?_⟩)
    exact led.imp id fun y => by rw [z4]; exact y
  · exact wpAny_pure (fin _ but1 ⟨_, fs, _, tc, got1, ex, rfl, ent, dis, mem, below, fit, rfl, ris, led⟩)
theorem add_txt {x : Str} {tk : Tok} {Q : Bool → Shared → Prop} (R : SetT w s.heap a T n) (room : n + 1 < scanBound)
    (q : ∀ h', Heap.SameBut a s.heap h' → SetT w h' a (fun y => T y || decide (y = x)) (if T x = true then n else n + 1) → Q (!T x) { s with heap := h' }) :
    wpAny (model P w) A (setAddHashed a (.str x tk) ((tkd P w).hash x)) Q E s := by
  obtain ⟨o, es, ep, tb, got, ex, dat, ent, dis, mem, below, fit, num, ris, led⟩ := R
  have key : (tkd P w).is x (.str x tk) = true := strKind_is P w x tk
  have sca : (Value.str x tk).scannable = true := rfl
  have els : ElemsOf (tkd P w) es.toList := txt_elems ent
  unfold setAddHashed; unfold setAddHashedIn
  refine wpAny_holding (wpAny_bind (wpAny_setState_of got dat fit ?_))
  dsimp only
  rw [byScan_of sca below els]
  simp only [↓reduceIte]
  unfold setAddByScan
  refine wpAny_bind (wpAny_bind (wpAny_rule ?_))
  refine wpAny_bind (wpAny_setScan_of key got dat fit els ?_)
  cases fi : List.findIdx? (fun e => (tkd P w).is x e.2) es.toList with
  | some j =>
    dsimp only
    obtain ⟨hj, pj, _⟩ := List.findIdx?_eq_some_iff_getElem.mp fi
    have yes : T x = true := (mem x).2 ((txt_mem (P := P) (w := w) ent x).2 ⟨es.toList[j], List.getElem_mem hj, pj⟩)
    have r := q s.heap (Heap.SameBut.refl a s.heap) ⟨o, es, ep, tb, got, ex, dat, ent, dis, fun y => by
      rw [Bool.or_eq_true, decide_eq_true_eq, ← mem y]
      exact ⟨fun z => z.elim id (fun e => e ▸ yes), .inl⟩, below, fit, by rw [if_pos yes]; exact num, ris, led⟩
    rw [yes] at r
    exact wpAny_pure (wpAny_pure r)
  | none =>
    dsimp only
    have absent : x ∉ es.toList.map txtOf := fun z => by
      obtain ⟨e, he, y⟩ := (txt_mem (P := P) (w := w) ent x).1 z
      have c := List.findIdx?_eq_none_iff.mp fi e he
      rw [y] at c
      cases c
    have no : T x = false := Bool.eq_false_iff.mpr fun z => absent ((mem x).1 z)
    have gw : ∀ (b : Bool) {t : Shared} {J : Unit → Shared → Prop}, J () t → wpAny (model P w) A (match b with | true => rule "set.scan.the-table-gave-way" | false => pure ()) J E t :=
      fun b t J j => by cases b <;> first | exact wpAny_pure j | exact wpAny_rule j
    have z1 := layNew_perm tb es ((tkd P w).hash x) (.str x tk)
    have z2 := layNew_fits tb es ((tkd P w).hash x) (.str x tk)
    have z3 := layNew_ris tb es ((tkd P w).hash x) (.str x tk) ris
    have z4 := layNew_led tb es ((tkd P w).hash x) (.str x tk)
    generalize layNew tb es ((tkd P w).hash x) (.str x tk) = W at z1 z2 z3 z4 ⊢
    obtain ⟨fs, tc, dum, gave⟩ := W
    dsimp only at z1 z2 z3 z4 ⊢
    rw [Array.toList_push] at z1
    have pc : fs.toList.Perm (((tkd P w).hash x, Value.str x tk) :: es.toList) := z1.trans (List.perm_append_singleton _ _)
    have pk : (fs.toList.map txtOf).Perm (x :: es.toList.map txtOf) := pc.map txtOf
    have ent1 : ∀ e ∈ fs.toList, TxtE w e := fun e he => (List.mem_cons.mp (pc.mem_iff.mp he)).elim (fun z => z ▸ ⟨x, tk, rfl, rfl⟩) (ent e)
    have dis1 : (fs.toList.map txtOf).Nodup := pk.nodup_iff.mpr (List.nodup_cons.mpr ⟨absent, dis⟩)
    have mem1 : ∀ y, (T y || decide (y = x)) = true ↔ y ∈ fs.toList.map txtOf := fun y => by
      rw [Bool.or_eq_true, decide_eq_true_eq, mem y, pk.mem_iff, List.mem_cons]
      exact Or.comm
    have size : fs.size = n + 1 := by rw [← Array.length_toList, pc.length_eq, List.length_cons, Array.length_toList, num]
    have below1 : fs.size < scanBound := by rw [size]; exact room
    have led1 : w.params.followText "set-order" = true ∨ tc.led = true := led.imp id fun z => by rw [z4]; exact z
    have fin : ∀ h', Heap.SameBut a s.heap h' → SetT w h' a (fun y => T y || decide (y = x)) fs.size → Q true { s with heap := h' } := fun h' sb r => by
      have j := q h' sb
      rw [no] at j
      rw [size] at r
      exact j r
    refine wpAny_bind (gw _ ?_)
    split
    · refine wpAny_bind ?_
      rw [hashByValue_scannable 8 sca]
      refine wpAny_pure (tail_txt ?_ got ex dat ent1 dis1 mem1 below1 ?_ ?_ ?_ ?_)
      · intro b t J j; cases b <;> first | exact wpAny_pure j | exact wpAny_rule j
      · first | (split <;> first | exact z2 | exact SetTable.fits_plain_off z2) | exact z2
      · first | (split <;> exact z3) | exact z3
      · first | (split <;> exact led1) | exact led1
      · intro h' sb r; dsimp only; exact wpAny_pure (fin h' sb r)
    · refine wpAny_bind (wpAny_pure ?_)
      simp only [↓reduceIte]
      refine tail_txt ?_ got ex dat ent1 dis1 mem1 below1 z2 z3 led1 ?_
      · intro b t J j; cases b <;> first | exact wpAny_pure j | exact wpAny_rule j
      · intro h' sb r; dsimp only; exact wpAny_pure (fin h' sb r)
theorem setT_new {h : Heap} {xs : List Str} (got : h.get? a = some (set0 w)) : SetT w h a (fun y => decide (y ∈ xs.take 0)) 0 :=
  ⟨_, #[], 0, _, got, ⟨rfl, rfl, rfl⟩, rfl, (fun e he => by simp at he), (by simp), (fun k => by simp), (by decide), (by rfl), rfl, List.Pairwise.nil, by
    show _ ∨ (!w.params.followText "set-order") = true
    cases w.params.followText "set-order"
    · exact .inr rfl
    · exact .inl rfl⟩
theorem update_txts {I : Addr} {fp wr : List Addr} {G : Array GenState → Array GenState → Prop} {n : Nat} {Pv : Nat → Value → Prop} {St : Nat → Shared → Prop} {R : Result → Shared → Prop}
    (W : WalksS P w A.in1 I fp wr G n Pv St) (D : Addr) (out : D ∉ fp) (xs : List Str) (len : n = xs.length) (below : xs.length + 1 < scanBound) (val : ∀ i v, Pv i v → ∃ x t, xs[i]? = some x ∧ v = .str x t) :
    ∀ (k i : Nat) (s : Shared), n - i = k → i ≤ n → St i s → (∃ c, c ≤ i ∧ SetT w s.heap D (fun y => decide (y ∈ xs.take i)) c) →
      (∀ s' c, Moved (D :: wr) G s s' → c ≤ n → SetT w s'.heap D (fun y => decide (y ∈ xs)) c → R (.ok (.ret .none)) s') →
      codeAny (model P w) A (.builtin "set.update.loop" ⟨[.ref D, .ref I], []⟩) R s := by
  have notw : D ∉ wr := fun z => out (W.sub _ z)
  have sub : ∀ b ∈ wr, b ∈ D :: wr := fun b hb => List.mem_cons_of_mem _ hb
  intro k
  induction k with
  | zero =>
    intro i s hk hi st ⟨c, hc, hS⟩ q
    obtain rfl : i = n := by omega
    refine codeAny_builtin F.entry_set_update_loop ?_
    rw [Around.under_plainId F.plain_set_update_loop _]
    show wpAny _ A.in1 (pyNext (.ref I) >>= _) _ _ s
    refine wpAny_bind (W.done s _ _ st fun t moved => ?_)
    show wpAny _ A.in1 (ret Value.none) _ _ t
    rw [List.take_of_length_le (by omega : xs.length ≤ i)] at hS
    exact wpAny_pure (q t c (moved.mono sub) hc (hS.there fun o e => moved.heap D o notw e))
  | succ k ih =>
    intro i s hk hi st ⟨c, hc, hS⟩ q
    have lt : i < n := by omega
    refine codeAny_builtin F.entry_set_update_loop ?_
    rw [Around.under_plainId F.plain_set_update_loop _]
    show wpAny _ A.in1 (pyNext (.ref I) >>= _) _ _ s
    refine wpAny_bind (W.item i s _ _ lt st fun v t hP st' moved => ?_)
    obtain ⟨x, tk, hx, rfl⟩ := val i v hP
    have hS' : SetT w t.heap D (fun y => decide (y ∈ xs.take i)) c := hS.there fun o e => moved.heap D o notw e
    show wpAny _ A.in1 (holding [Value.str x tk] (setAdd D (.str x tk)) >>= _) _ _ t
    refine wpAny_bind (wpAny_holding ?_)
    unfold setAdd
    refine wpAny_holding (wpAny_bind ((tkd P w).pyHash (k := x) (strKind_is _ _ _ _) ?_))
    refine add_txt (s := { t with toks := t.toks + 1 }) hS' (by omega) fun h' sb r => ?_
    have r3 : SetT w h' D (fun y => decide (y ∈ xs.take (i + 1))) (if decide (x ∈ xs.take i) = true then c else c + 1) := r.same fun y => by
      rw [List.take_add_one, hx]
      simp [List.mem_append]
    have c3 : (if decide (x ∈ xs.take i) = true then c else c + 1) ≤ i + 1 := by split <;> omega
    refine wpAny_pure ⟨plainId_quiet F.plain_set_update_loop _, ih (i + 1) _ (by omega) lt (W.frame _ t _ _ st' (Nat.le_succ _) fun b hb o e => ?_) ⟨_, c3, r3⟩ fun t2 c2 m2 hc2 hS2 => ?_⟩
    · rw [sb.2 b (fun z : b = D => out (by rw [← z]; exact hb))]; exact e
    · refine q t2 c2 (Moved.trans W.gtrans ((moved.mono sub).then_heap (Nat.le_succ _) fun b o hb e => ?_) m2) hc2 hS2
      rw [sb.2 b (fun z : b = D => hb (by rw [z]; exact List.mem_cons_self))]; exact e
theorem loop_txts {l : Addr} {items : Array Value} {xs : List Str} (cool : A.handled = none) (hl : s.heap.IsList l items) (hi : StrsAre items.toList xs) (below : xs.length + 1 < scanBound) :
    ∀ (A' : Around) (R : Result → Shared → Prop) (s1 : Shared), A'.handled = A.handled → s1.heap = (s.heap.push (set0 w)).push (lit0 l) →
      (∀ s', Moved [s.heap.objs.size, s.heap.objs.size + 1] (fun a b => b = a) s1 s' → (∃ c, c ≤ xs.length ∧ SetT w s'.heap s.heap.objs.size (fun y => decide (y ∈ xs)) c) → R (.ok (.ret .none)) s') →
      codeAny (model P w) A' (.builtin "set.update.loop" ⟨[.ref s.heap.objs.size, .ref (s.heap.objs.size + 1)], []⟩) R s1 := by
  intro A' R s1 hA e1 k
  have size : items.size = xs.length := by
    have q := StrsAre.length hi
    rwa [Array.length_toList] at q
  have low : l < s.heap.objs.size := Heap.lt_size hl.choose_spec.1
  have z1 : (s.heap.push (set0 w)).objs.size = s.heap.objs.size + 1 := Heap.size_push ..
  have g0 : s1.heap.get? s.heap.objs.size = some (set0 w) := e1 ▸ Heap.get?_push_of_some _ (Heap.get?_push_size _ rfl)
  have gI : s1.heap.get? (s.heap.objs.size + 1) = some (lit0 l) := by
    have q := Heap.get?_push_size (o := lit0 l) (s.heap.push (set0 w)) rfl
    rw [z1] at q
    exact e1 ▸ q
  have gl : s1.heap.IsList l items := e1 ▸ (hl.push _).push _
  have W := (Walks.list (prog := P) (w := w) (A := A'.in1) (by simp [hA, cool]) (s.heap.objs.size + 1) l (Nat.ne_of_lt (Nat.lt_succ_of_lt low)) items).toS
  refine update_txts W s.heap.objs.size ?_ xs size below ?_ (items.size - 0) 0 s1 rfl (Nat.zero_le _) ⟨⟨_, gI, rfl, rfl⟩, gl⟩ ⟨0, Nat.le_refl 0, setT_new g0⟩ fun s' c hm hc hS => k s' hm ⟨c, by omega, hS⟩
  · intro z
    rcases List.mem_cons.mp z with z | z
    · exact absurd z (Nat.ne_of_lt (Nat.lt_succ_self _))
    · exact absurd (List.mem_singleton.mp z) (Nat.ne_of_gt low)
  · intro i v hv
    have lt : i < xs.length := by rw [← size]; exact (Array.getElem?_eq_some_iff.mp hv).1
    obtain ⟨t, e⟩ := SS.strs_at hi i v (by rw [Array.getElem?_toList]; exact hv)
    refine ⟨xs[i], t, List.getElem?_eq_getElem lt, ?_⟩
    rw [e, List.getD_eq_getElem?_getD, List.getElem?_eq_getElem lt]
    rfl
theorem sort_txts {n : Nat} {Q : Value → Shared → Prop} (R : SetT w s.heap a T n) (cool : A.handled = none)
    (q : ∀ t p (out : Array Value) (c : Nat) (ys : List Str), (∀ b o, s.heap.get? b = some o → t.heap.get? b = some o) → t.gens = s.gens → t.os = s.os → s.heap.objs.size ≤ p → t.heap.get? p = some (seqObj "list" out c) →
      StrsAre out.toList ys → sortedS ys = true → ys.Nodup → (∀ x, x ∈ ys ↔ T x = true) → ys.length = n → Q (.ref p) t) : wpAny (model P w) A (call (.builtin "sorted") [.ref a]) Q E s := by
  obtain ⟨o, es, ep, tb, got, ex, dat, ent, dis, mem, below, fit, num, ris, led⟩ := R
  refine Calls.call_function_entry kind_sorted plain_sorted entry_sorted (args_sorted1 _) ?_
  unfold Builtin.«sorted»
  refine wpAny_bind (m := checkCount "sorted" 1 1 _) (wpAny_pure (wpAny_bind ?_))
  refine collect_set (A := A.in1) cool ⟨o, got, ex.1, dat⟩ fit below ris led fun t vals keep big gens os perm => ?_
  have many : vals.length = n := by rw [perm.length_eq, List.length_map, Array.length_toList]; exact num
  have small : vals.length ≤ sizeLine := by
    rw [perm.length_eq, List.length_map, Array.length_toList]
    exact fits_of_scanBound below
  have txs : StrsAre vals (vals.map PyProof.Rows.strOf) := strsAre_map vals fun v hv => by
    obtain ⟨e, he, z⟩ := List.mem_map.mp (perm.mem_iff.mp hv)
    obtain ⟨x, tk, h1, _⟩ := ent e he
    exact ⟨x, tk, by rw [← z]; exact h1⟩
  have perm2 := perm.map PyProof.Rows.strOf
  rw [List.map_map] at perm2
  have et : es.toList.map (PyProof.Rows.strOf ∘ fun e => e.2) = es.toList.map txtOf := List.map_congr_left fun e he => by
    obtain ⟨x, tk, h1, _⟩ := ent e he
    show PyProof.Rows.strOf e.2 = txtOf e
    unfold txtOf
    rw [h1]
    rfl
  rw [et] at perm2
  refine wpAny_bind (wpAny_newList (wpAny_bind (wpAny_holding ?_)) small)
  have got2 : (t.heap.push (seqObj "list" vals.toArray 0)).get? t.heap.objs.size = some (seqObj "list" vals.toArray 0) := Heap.get?_push_size _ rfl
  refine wpAny_call_entry slot_list_sort ⟨_, got2, rfl⟩ entry_list_sort ?_ (args_list_sort _)
  refine list_sort_treeKAny strKind_oneLt got2 txs.keysOf (fun v1 v2 rest e => keyKind_strs (by rw [← e]; exact txs)) small fun st' hp hs => ⟨_, rfl, wpAny_pure ⟨_, rfl, ?_⟩⟩
  obtain ⟨ys, k1, k2, k3⟩ := sorted_out_str txs hp hs
  obtain ⟨c, got3⟩ := sortedHeap_at (vs := vals) (out := (arrOf st').map (·.2)) got2
  have pn := k2.trans perm2
  refine q _ t.heap.objs.size _ c ys (fun b u z => ?_) gens os big got3 k1 k3 (pn.nodup_iff.mpr dis) (fun x => pn.mem_iff.trans (mem x).symm) (by rw [pn.length_eq, List.length_map, Array.length_toList]; exact num)
  have z1 := keep b u z
  have z2 := Heap.lt_size z1
  show (sortedHeap (t.heap.push (seqObj "list" vals.toArray 0)) t.heap.objs.size vals ((arrOf st').map (·.2))).get? b = some u
  rw [sortedHeap_old (Nat.ne_of_lt z2) (by rw [size_push']; exact Nat.lt_succ_of_lt z2)]
  exact Heap.get?_push_of_some _ z1
end
/-- the set object -/
def SetTO (w : World) (a : Addr) (T : Str → Bool) (n : Nat) : HO := .ext fun h => SetT w h a T n
theorem setT_ok {w : World} {P : Program} {H : Hp} {h : Heap} {a : Addr} {T : Str → Bool} {n : Nat} (R : SetT w h a T n) : ObjOk P w H h a (SetTO w a T n) :=
  ⟨R, R.imp fun o z => by obtain ⟨_, _, _, g, _⟩ := z; exact g, fun h1 h2 p k => SetT.there p k⟩
section
variable {X : Cx}
def rSetT (K : PySem.W.Frag) (w : World) : List V → Hp → VK → Prop := fun xs H Q => ∃ (l : Addr) (ys : List Str), xs = [.ref l] ∧ SqL K H l (ys.map V.str) ∧ ys.length < 4000 ∧
  ∀ p c, H p = none → c ≤ ys.length → Q (.ref p) (upd H p (SetTO w p (fun y => decide (y ∈ ys)) c))
theorem cr_setT (cool : X.calm = true) : CallR X (.type "set") (rSetT X.K X.w) := by
  intro pins s σ H xs us Q I r h
  obtain ⟨l, ys, rfl, hl, few, q⟩ := h
  obtain ⟨u, rfl, ru⟩ := vals1 r
  cases (show u = Value.ref l from ru)
  obtain ⟨its, rv, pl, hz⟩ := I.list hl
  have hi : StrsAre its.toArray.toList ys := by simpa using rv.strs
  refine set_of_list (P := X.prog) (w := X.w) (Fin := fun h => ∃ c, c ≤ ys.length ∧ SetT X.w h s.heap.objs.size (fun y => decide (y ∈ ys)) c) pl.isList (loop_txts (I.ok.hd cool) pl.isList hi (by unfold scanBound; omega)) fun h' tk hF hk => ?_
  obtain ⟨c, hc', R⟩ := hF
  have fr := I.hok.fresh (Nat.le_refl s.heap.objs.size)
  exact ⟨.ref s.heap.objs.size, _, I.laid (t' := tk) hk (Nat.le_refl _) (setT_ok R), rfl, q _ _ fr hc'⟩
def rSortT (w : World) : List V → Hp → VK → Prop := fun vs H Q => ∃ (a : Addr) (T : Str → Bool) (n : Nat), vs = [V.ref a] ∧ H a = some (SetTO w a T n) ∧ n ≤ 4000 ∧
  ∀ (ys : List Str) (p : Addr), sortedS ys = true → ys.Nodup → (∀ x, x ∈ ys ↔ T x = true) → H p = none → Q (.ref p) (upd H p (.lst (ys.map V.str)))
theorem cr_sortT (cool : X.calm = true) : CallR X (.builtin "sorted") (rSortT X.w) := by
  intro pins s σ H vs us Q I r h
  obtain ⟨a, T, n, rfl, ha, few, q⟩ := h
  rw [Vals.ref1 r]
  refine sort_txts (I.hok a _ ha).1 (I.ok.hd cool) fun t p out c ys keep gens os big got txs up dis mem many => ?_
  have free : H p = none := I.hok.fresh big
  have size : (ys.map V.str).length ≤ sizeLine := by rw [List.length_map, many, sizeLine_eq]; omega
  obtain ⟨th, tg, td, tt, to⟩ := t
  cases (show to = s.os from os)
  have keep' : ∀ b o, s.heap.get? b = some o → th.get? b = some o := keep
  have J := I.call (H' := upd H p (.lst (ys.map V.str))) (h' := th) (g' := tg) (d' := td) (t' := tt) (ch := []) (Un.laid keep' big free) (I.hok.laid keep' big ⟨size, out.toList, c, vals_of_strs txs, got⟩) (by rw [show tg = s.gens from gens]; exact I.bare) (fun _ z => nomatch z)
  exact ⟨.ref p, _, J, rfl, q ys p up dis mem free⟩
end
/-- sorted(set(xs)), xs a list of texts -/
theorem r_sortSetT {K : PySem.W.Frag} {w : World} {σ : L2.St} {H : Hp} {Q : VK} {l : Addr} {xs : List Str} (hl : SqL K H l (xs.map V.str)) (hn : xs.length < 4000)
    (k : ∀ (ys : List Str) (p : Addr) (H' : Hp), sortedS ys = true → ys.Nodup → (∀ x, x ∈ ys ↔ x ∈ xs) → Same H H' → H p = none → H' p = some (.lst (ys.map V.str)) → Q (.ref p) H') :
    rSetT K w [.ref l] H fun x H1 => tNil σ H1 fun zs H2 => rSortT w (x :: zs) H2 Q := by
  refine ⟨l, xs, rfl, hl, hn, fun p c hp hc => ?_⟩
  refine r_nil ⟨p, _, c, rfl, upd_same, by omega, fun ys p2 hs hd hm h2 => ?_⟩
  have h3 : H p2 = none := by
    by_cases e : p2 = p
    · rw [e, upd_same] at h2; cases h2
    · rwa [upd_ne e] at h2
  exact k ys p2 _ hs hd (fun z => by rw [hm]; simp) ((same_new hp).trans (same_new h2)) h3 upd_same
end CP

set_option Elab.async false
set_option linter.all false
set_option maxRecDepth 100000
set_option maxHeartbeats 4000000
set_option autoImplicit false
/-! == and != of equal data of any shape: lists, tuples, dicts -/
namespace CP
open PySem L2 PySem.Spec PyProof.Rows PySem.SeqAt
open MeetsSeq3 (plain_eq_loop entry_eq_loop)
section
variable {prog : Program} {w : World}
/-- != of two tuples whose items are equal -/
theorem tup_ne_same (l b : Addr) (us vs : Array Value) (m m2 : Nat) (dd dd2 : Option Addr) (sl sl2 : Array (Option Value)) (sz : us.size = vs.size) :
    MeetsIn prog w (Builtin.«tuple.__ne__» ⟨[.ref l, .ref b], []⟩)
      (fun A R s => s.heap.get? l = some { cls := .type "tuple", dict := dd, data := .seq us m, slots := sl } ∧ s.heap.get? b = some { cls := .type "tuple", dict := dd2, data := .seq vs m2, slots := sl2 } ∧
        (∀ j (h1 : j < us.size) (h2 : j < vs.size), EqP prog w A.in1 s us[j] vs[j] true) ∧ R (.ok (.ret (.bool false))) s) := by
  intro A R s h
  obtain ⟨hp, g, d, tk, os⟩ := s
  obtain ⟨hl, hb, he, h⟩ := h
  have f2 := AutoSeq1.sub_tuple_tuple
  have zl : (us.toList.zip vs.toList).length = us.size := by simp [sz]
  wp_walk using wpAny_loadPart' hl, wpAny_loadPart' hb, wpAny_forIn_list _ (fun rest b s' => b.1 = none ∧ s' = ⟨hp, g, d, tk, os⟩ ∧ ∃ i, rest = (us.toList.zip vs.toList).drop i) _
  case turn =>
    rintro ⟨y, x⟩ rest c s' ⟨hc, rfl, i, hz⟩
    have lt : i < (us.toList.zip vs.toList).length := by
      rcases Nat.lt_or_ge i (us.toList.zip vs.toList).length with k | k
      · exact k
      · rw [List.drop_of_length_le k] at hz; cases hz
    have l1 : i < us.size := zl ▸ lt
    have l2 : i < vs.size := sz ▸ l1
    rw [List.drop_eq_getElem_cons lt] at hz
    injection hz with hyx more
    have ey : y = us[i] := by simpa using congrArg Prod.fst hyx
    have ex : x = vs[i] := by simpa using congrArg Prod.snd hyx
    subst ey ex
    refine wpAny_bind (he i l1 l2 _ _ ?_)
    wp_walk
    exact ⟨rfl, rfl, i + 1, more⟩
  case fin =>
    rintro ⟨b1, b2⟩ s' ⟨hc, rfl, i, hz⟩
    simp only at hc
    subst hc
    wp_walk
    simpa [Builtin.Tuple.tupleCompareSizes, bne, sz] using h
  case h =>
    exact ⟨rfl, rfl, 0, rfl⟩
theorem rc_tup_ne {A : Around} {s : Shared} {l b : Addr} {us vs : Array Value} (hl : s.heap.IsTuple l us) (hb : s.heap.IsTuple b vs) (sz : us.size = vs.size) (hu : A.units < cLine)
    (he : ∀ j (h1 : j < us.size) (h2 : j < vs.size), EqP prog w A.in1 s us[j] vs[j] true) (E Q : Value → Shared → Prop) (h : Q (.bool false) s) : wpAny (model prog w) A (richCompare .NotEq (.ref l) (.ref b)) Q E s := by
  obtain ⟨⟨c1, d1, x1, s1⟩, o1, e1, m1, z1⟩ := id hl
  obtain ⟨⟨c2, d2, x2, s2⟩, o2, e2, m2, z2⟩ := id hb
  simp only at e1 z1 e2 z2
  subst e1 z1 e2 z2
  exact wpAny_richCompare_same_room (op := .NotEq) ⟨_, o1, rfl⟩ ⟨_, o2, rfl⟩ F.slot_tuple_ne (call_meetsIn F.slot_tuple_ne ⟨_, o1, rfl⟩ F.entry_tuple_ne (F.args_tuple_ne_2 _ _) (tup_ne_same l b us vs m1 m2 d1 d2 s1 s2 sz)
    ⟨o1, o2, he, show Value.bool false ≠ Value.notImplemented ∧ Q (.bool false) s from ⟨(fun x => nomatch x), h⟩⟩) hu
/-- the loop of two lists whose items are equal -/
theorem lst_ne_loop (l b : Addr) (us vs : Array Value) (m m2 : Nat) (dd dd2 : Option Addr) (sl sl2 : Array (Option Value)) (sz : us.size = vs.size) :
    ∀ k i : Nat, us.size - i = k → MeetsIn prog w (Builtin.«list.__eq__.loop» ⟨[.ref l, .ref b, rawInt i, rawInt 3], []⟩)
      (fun A R s => s.heap.get? l = some { cls := .type "list", dict := dd, data := .seq us m, slots := sl } ∧ s.heap.get? b = some { cls := .type "list", dict := dd2, data := .seq vs m2, slots := sl2 } ∧
        (∀ j (h1 : j < us.size) (h2 : j < vs.size), EqP prog w A.in1 s us[j] vs[j] true) ∧ R (.ok (.ret (.bool false))) s)
  | 0, i, hk => by
    intro A R s h
    obtain ⟨hp, g, d, tk, os⟩ := s
    obtain ⟨hl, hb, he, h⟩ := h
    wp_walk using wpAny_loadPart' hl, wpAny_loadPart' hb
    have q1 : us[((i : Nat) : Int).toNat]? = none := by simp; omega
    have q2 : vs[((i : Nat) : Int).toNat]? = none := by simp; omega
    rw [q1, q2]
    wp_walk using wpAny_loadPart' hl, wpAny_loadPart' hb
    show R (.ok (.ret (.bool (us.size != vs.size)))) _
    rw [sz]
    simpa using h
  | k + 1, i, hk => by
    intro A R s h
    obtain ⟨hp, g, d, tk, os⟩ := s
    obtain ⟨hl, hb, he, h⟩ := h
    wp_walk using wpAny_loadPart' hl, wpAny_loadPart' hb
    have l1 : i < us.size := by omega
    have l2 : i < vs.size := by omega
    have q1 : us[((i : Nat) : Int).toNat]? = some us[i] := by simp [l1]
    have q2 : vs[((i : Nat) : Int).toNat]? = some vs[i] := by simp [l2]
    have q3 : ((i : Int) + 1) = ((i + 1 : Nat) : Int) := by push_cast; rfl
    rw [q1, q2]
    refine wpAny_bind (he i l1 l2 _ _ ?_)
    wp_walk
    rw [q3]
    exact ⟨plainId_quiet plain_eq_loop _, codeAny_builtin entry_eq_loop (by
      rw [Around.under_plainId plain_eq_loop _]
      exact lst_ne_loop l b us vs m m2 dd dd2 sl sl2 sz k (i + 1) (by omega) A R _ ⟨hl, hb, he, h⟩)⟩
theorem lst_ne_same (l b : Addr) (us vs : Array Value) (m m2 : Nat) (dd dd2 : Option Addr) (sl sl2 : Array (Option Value)) (sz : us.size = vs.size) :
    MeetsIn prog w (Builtin.«list.__ne__» ⟨[.ref l, .ref b], []⟩)
      (fun A R s => s.heap.get? l = some { cls := .type "list", dict := dd, data := .seq us m, slots := sl } ∧ s.heap.get? b = some { cls := .type "list", dict := dd2, data := .seq vs m2, slots := sl2 } ∧
        (∀ j (h1 : j < us.size) (h2 : j < vs.size), EqP prog w A.in1 s us[j] vs[j] true) ∧ R (.ok (.ret (.bool false))) s) := by
  intro A R s h
  obtain ⟨hp, g, d, tk, os⟩ := s
  obtain ⟨hl, hb, he, h⟩ := h
  have f3 := AutoSeq1.sub_list_list
  have hne : ¬ (us.size != vs.size) = true := by simp [sz]
  wp_walk using wpAny_loadPart' hl, wpAny_loadPart' hb
  exact ⟨plainId_quiet plain_eq_loop _, codeAny_builtin entry_eq_loop (by
    rw [Around.under_plainId plain_eq_loop _]
    exact lst_ne_loop l b us vs m m2 dd dd2 sl sl2 sz _ 0 rfl A R _ ⟨hl, hb, he, h⟩)⟩
theorem rc_lst_ne {A : Around} {s : Shared} {l b : Addr} {us vs : Array Value} (hl : s.heap.IsList l us) (hb : s.heap.IsList b vs) (sz : us.size = vs.size) (hu : A.units < cLine)
    (he : ∀ j (h1 : j < us.size) (h2 : j < vs.size), EqP prog w A.in1 s us[j] vs[j] true) (E Q : Value → Shared → Prop) (h : Q (.bool false) s) : wpAny (model prog w) A (richCompare .NotEq (.ref l) (.ref b)) Q E s := by
  obtain ⟨⟨c1, d1, x1, s1⟩, o1, e1, m1, z1⟩ := id hl
  obtain ⟨⟨c2, d2, x2, s2⟩, o2, e2, m2, z2⟩ := id hb
  simp only at e1 z1 e2 z2
  subst e1 z1 e2 z2
  exact wpAny_richCompare_same_room (op := .NotEq) ⟨_, o1, rfl⟩ ⟨_, o2, rfl⟩ F.slot_list_ne (call_meetsIn F.slot_list_ne ⟨_, o1, rfl⟩ F.entry_list_ne (F.args_list_ne_2 _ _) (lst_ne_same l b us vs m1 m2 d1 d2 s1 s2 sz)
    ⟨o1, o2, he, show Value.bool false ≠ Value.notImplemented ∧ Q (.bool false) s from ⟨(fun x => nomatch x), h⟩⟩) hu
theorem rc_tup_eq {A : Around} {s : Shared} {l b : Addr} {us vs : Array Value} (hl : s.heap.IsTuple l us) (hb : s.heap.IsTuple b vs) (sz : us.size = vs.size) (hu : A.units < cLine)
    (he : ∀ j (h1 : j < us.size) (h2 : j < vs.size), EqP prog w A.in1 s us[j] vs[j] true) (E Q : Value → Shared → Prop) (h : Q (.bool true) s) : wpAny (model prog w) A (richCompare .Eq (.ref l) (.ref b)) Q E s :=
  GQ.rc_tupG sz hu (fun _ t => t = s) hl hb (fun i h1 h2 t e => by
    subst e
    exact he i h1 h2 E _ ⟨rfl, rfl⟩) (fun t e => by subst e; exact h) rfl
end
/-! equal values: of nesting below n -/
/-- two lists, two tuples of equal items; two dicts of the same keys whose values are equal -/
def SqR (K : PySem.W.Frag) (H : Hp) (E : V → V → Prop) (x y : V) : Prop :=
  (∃ a b xs ys, x = .ref a ∧ y = .ref b ∧ SqL K H a xs ∧ SqL K H b ys ∧ Paired E xs ys) ∨ (∃ a b xs ys, x = .ref a ∧ y = .ref b ∧ SqT K H a xs ∧ SqT K H b ys ∧ Paired E xs ys) ∨
    ∃ a b ks ls, x = .ref a ∧ y = .ref b ∧ H a = some (.dK ks) ∧ H b = some (.dK ls) ∧ ks.length = ls.length ∧ ∀ p ∈ ks, ∃ u, valV ls p.1 = some u ∧ E p.2 u
def SqV (K : PySem.W.Frag) (H : Hp) : Nat → V → V → Prop
  | 0 => fun _ _ => False
  | n + 1 => fun x y => (x = y ∧ flatB x = true) ∨ (∃ a, x = .ref a ∧ y = .ref a) ∨ SqR K H (SqV K H n) x y
section
variable {X : Cx} {pins : List (Addr × Obj)} {σ : L2.St} {H : Hp} {s : Shared}
theorem sqR_eq (I : Inv X pins σ H s) {A : Around} {F : V → V → Prop} (hu : A.units < cLine) (ih : ∀ x y v u, F x y → RelV x v → RelV y u → EqP X.prog X.w A.in1 s v u true) {x y : V} {v u : Value} (h : SqR X.K H F x y) (rx : RelV x v) (ry : RelV y u)
    (E Q : Value → Shared → Prop) (q : Q (.bool true) s) : wpAny (model X.prog X.w) A (richCompare .Eq v u) Q E s := by
  rcases h with h | ⟨a, b, xs, ys, rfl, rfl, ha, hb, hp⟩ | h
  · exact eqR_run I hu ih (.inl h) rx ry E Q q
  · cases (show v = Value.ref a from rx)
    cases (show u = Value.ref b from ry)
    obtain ⟨us, r1, p1, _⟩ := I.tuple ha
    obtain ⟨ws, r2, p2, _⟩ := I.tuple hb
    have sz : us.toArray.size = ws.toArray.size := by
      rw [List.size_toArray, List.size_toArray, ← r1.length, ← r2.length]
      exact Paired.length hp
    exact rc_tup_eq p1 p2 sz hu (fun j h1 h2 => by simpa using items_run ih hp r1 r2 j (by simpa using h1) (by simpa using h2)) E Q q
  · exact eqR_run I hu ih (.inr h) rx ry E Q q
theorem sqV_eq (I : Inv X pins σ H s) : ∀ (n : Nat) (A : Around), A.units + n < cLine → ∀ (x y : V) (v u : Value), SqV X.K H n x y → RelV x v → RelV y u → EqP X.prog X.w A s v u true
  | 0, _, _, _, _, _, _, h, _, _ => (show False from h).elim
  | n + 1, A, hu, x, y, v, u, h, rx, ry => by
    rcases h with ⟨rfl, f⟩ | ⟨a, rfl, rfl⟩ | h
    · exact (eqAt_same rx ry f).eqP
    · cases (show v = Value.ref a from rx)
      cases (show u = Value.ref a from ry)
      exact (EqAt.same _).eqP
    · have step := sqR_eq I (A := A) (by omega) (sqV_eq I n A.in1 (by show A.units + 1 + n < cLine; omega)) h rx ry
      obtain ⟨a, b, rfl, rfl⟩ : ∃ a b, x = .ref a ∧ y = .ref b := by
        rcases h with ⟨a, b, _, _, e1, e2, _⟩ | ⟨a, b, _, _, e1, e2, _⟩ | ⟨a, b, _, _, e1, e2, _⟩ <;> exact ⟨a, b, e1, e2⟩
      cases (show v = Value.ref a from rx)
      cases (show u = Value.ref b from ry)
      by_cases e : a = b
      · subst e
        exact (EqAt.same _).eqP
      · exact eqP_refs e step
end
section
variable {X : Cx}
/-- ==, != of equal lists and tuples -/
def rEqQ (K : PySem.W.Frag) : R2 := fun x y H Q => ∃ n, n ≤ 60 ∧ SqR K H (SqV K H n) x y ∧ Q (.bl true) H
def rNeQ (K : PySem.W.Frag) : R2 := fun x y H Q => ∃ n a b xs ys, n ≤ 60 ∧ x = .ref a ∧ y = .ref b ∧ ((SqL K H a xs ∧ SqL K H b ys) ∨ (SqT K H a xs ∧ SqT K H b ys)) ∧ Paired (SqV K H n) xs ys ∧ Q (.bl false) H
theorem op_eqQ (hu : X.A.units + 64 < cLine) : OpR X (compareOp .Eq) (rEqQ X.K) := by
  intro pins s σ H x y v u Q I rx ry h
  obtain ⟨n, hn, h, q⟩ := h
  exact sqR_eq I (A := X.A) (by omega) (sqV_eq I n X.A.in1 (by show X.A.units + 1 + n < cLine; omega)) h rx ry _ _ ⟨.bl true, H, I, rfl, q⟩
theorem op_neQ (hu : X.A.units + 64 < cLine) : OpR X (compareOp .NotEq) (rNeQ X.K) := by
  intro pins s σ H x y v u Q I rx ry h
  obtain ⟨n, a, b, xs, ys, hn, rfl, rfl, h, hp, q⟩ := h
  have ih := sqV_eq I n X.A.in1 (by show X.A.units + 1 + n < cLine; omega)
  cases (show v = Value.ref a from rx)
  cases (show u = Value.ref b from ry)
  have fin : (EP X pins σ Q) (.bool false) s := ⟨.bl false, H, I, rfl, q⟩
  rcases h with ⟨ha, hb⟩ | ⟨ha, hb⟩
  · obtain ⟨us, r1, p1, _⟩ := I.list ha
    obtain ⟨ws, r2, p2, _⟩ := I.list hb
    have sz : us.toArray.size = ws.toArray.size := by
      rw [List.size_toArray, List.size_toArray, ← r1.length, ← r2.length]
      exact Paired.length hp
    exact rc_lst_ne p1.isList p2.isList sz (by omega) (fun j h1 h2 => by simpa using items_run ih hp r1 r2 j (by simpa using h1) (by simpa using h2)) _ _ fin
  · obtain ⟨us, r1, p1, _⟩ := I.tuple ha
    obtain ⟨ws, r2, p2, _⟩ := I.tuple hb
    have sz : us.toArray.size = ws.toArray.size := by
      rw [List.size_toArray, List.size_toArray, ← r1.length, ← r2.length]
      exact Paired.length hp
    exact rc_tup_ne p1 p2 sz (by omega) (fun j h1 h2 => by simpa using items_run ih hp r1 r2 j (by simpa using h1) (by simpa using h2)) _ _ fin
/-- ==, != of any of these: plain values, data without dicts, equal data -/
def rEqX (K : PySem.W.Frag) : R2 := fun x y H Q => rEq x y H Q ∨ rEqD K x y H Q ∨ rEqQ K x y H Q
def rNeX (K : PySem.W.Frag) : R2 := fun x y H Q => rNe x y H Q ∨ rNeD K x y H Q ∨ rNeQ K x y H Q
theorem op_eqX (hu : X.A.units + 64 < cLine) : OpR X (compareOp .Eq) (rEqX X.K) := by
  intro pins s σ H x y v u Q I rx ry h
  rcases h with h | h | h
  · exact op_eq pins s σ H x y v u Q I rx ry h
  · exact op_eqD hu pins s σ H x y v u Q I rx ry h
  · exact op_eqQ hu pins s σ H x y v u Q I rx ry h
theorem op_neX (hu : X.A.units + 64 < cLine) : OpR X (compareOp .NotEq) (rNeX X.K) := by
  intro pins s σ H x y v u Q I rx ry h
  rcases h with h | h | h
  · exact op_ne pins s σ H x y v u Q I rx ry h
  · exact op_neD hu pins s σ H x y v u Q I rx ry h
  · exact op_neQ hu pins s σ H x y v u Q I rx ry h
end
section
variable {K : PySem.W.Frag} {H : Hp} {Q : VK} {a b : Str} {i j : Int}
theorem txt_dec : decide (V.str a = V.str b) = decide (a = b) := by
  by_cases h : a = b
  · subst h; simp
  · rw [decide_eq_false h, decide_eq_false fun z => h (V.str.inj z)]
theorem r_eqXS (q : Q (.bl (decide (a = b))) H) : rEqX K (.str a) (.str b) H Q := .inl ⟨rfl, by rw [txt_dec]; exact q⟩
theorem r_neXS (q : Q (.bl (!decide (a = b))) H) : rNeX K (.str a) (.str b) H Q := .inl ⟨rfl, by rw [txt_dec]; exact q⟩
theorem r_eqXI (q : Q (.bl (decide (i = j))) H) : rEqX K (.int i) (.int j) H Q := .inl (r_eqI q)
theorem r_neXI (q : Q (.bl (!decide (i = j))) H) : rNeX K (.int i) (.int j) H Q := .inl (r_neI q)
end
end CP

set_option Elab.async false
set_option linter.all false
set_option maxRecDepth 100000
set_option maxHeartbeats 4000000
set_option autoImplicit false
/-! texts in order; lists of texts as values -/
namespace CP
open L2 PySem PyProof.Rows
def sle (a b : Str) : Prop := ¬ (b.cps.toList < a.cps.toList)
instance (a b : Str) : Decidable (sle a b) := inferInstanceAs (Decidable (¬ _))
theorem sle_total (a b : Str) : sle a b ∨ sle b a := by
  by_cases h : b.cps.toList < a.cps.toList
  · exact .inr (List.lt_asymm h)
  · exact .inl h
theorem sle_trans {a b c : Str} (h1 : sle a b) (h2 : sle b c) : sle a c := by
  unfold sle at *
  rw [List.not_lt] at *
  exact List.le_trans h1 h2
theorem sle_anti {a b : Str} (h1 : sle a b) (h2 : sle b a) : a = b := by
  unfold sle at *
  rw [List.not_lt] at *
  have e := List.le_antisymm h1 h2
  cases a; cases b
  simp only at e
  rw [Array.toList_inj.mp e]
theorem rising_of : ∀ {l : List Str} {p : Str}, risingS p l = true → (p :: l).Pairwise sle
  | [], p, _ => List.pairwise_singleton _ _
  | x :: l, p, h => by
    unfold risingS at h
    rw [Bool.and_eq_true] at h
    have ih := rising_of h.2
    have hp : sle p x := by
      have := h.1
      rw [Bool.not_eq_true', ltCps_eq, decide_eq_false_iff_not] at this
      exact this
    refine List.pairwise_cons.mpr ⟨fun y hy => ?_, ih⟩
    rcases List.mem_cons.mp hy with e | e
    · rw [e]; exact hp
    · exact sle_trans hp (List.rel_of_pairwise_cons ih e)
theorem sorted_pw {l : List Str} (h : sortedS l = true) : l.Pairwise sle := by
  cases l with
  | nil => exact List.Pairwise.nil
  | cons x l => exact rising_of h
def insT (x : Str) : List Str → List Str
  | [] => [x]
  | y :: l => if sle x y then x :: y :: l else y :: insT x l
theorem insT_perm (x : Str) : ∀ l, (insT x l).Perm (x :: l)
  | [] => .refl _
  | y :: l => by
    unfold insT
    split
    · exact .refl _
    · exact ((insT_perm x l).cons y).trans (.swap ..)
theorem insT_pw (x : Str) : ∀ {l : List Str}, l.Pairwise sle → (insT x l).Pairwise sle
  | [], _ => List.pairwise_singleton _ _
  | y :: l, h => by
    have hh := List.pairwise_cons.mp h
    unfold insT
    split
    · rename_i e
      refine List.pairwise_cons.mpr ⟨fun z hz => ?_, h⟩
      rcases List.mem_cons.mp hz with r | r
      · rw [r]; exact e
      · exact sle_trans e (hh.1 z r)
    · rename_i e
      refine List.pairwise_cons.mpr ⟨fun z hz => ?_, insT_pw x hh.2⟩
      rcases List.mem_cons.mp ((insT_perm x l).mem_iff.mp hz) with r | r
      · rw [r]; exact (sle_total x y).resolve_left e
      · exact hh.1 z r
/-- in order: by insertion, so that the kernel can go through it -/
def srt (l : List Str) : List Str := l.foldr insT []
theorem srt_both (l : List Str) : (srt l).Perm l ∧ (srt l).Pairwise sle := by
  induction l with
  | nil => exact ⟨.refl _, .nil⟩
  | cons x l ih => exact ⟨(insT_perm x _).trans (ih.1.cons x), insT_pw x ih.2⟩
theorem srt_perm (l : List Str) : (srt l).Perm l := (srt_both l).1
theorem srt_pw (l : List Str) : (srt l).Pairwise sle := (srt_both l).2
theorem srt_unique {l m : List Str} (hp : l.Perm m) (h1 : l.Pairwise sle) (h2 : m.Pairwise sle) : l = m :=
  List.Perm.eq_of_pairwise (le := sle) (fun a b _ _ => sle_anti) h1 h2 hp
theorem srt_of {l ys : List Str} (hp : ys.Perm l) (h : sortedS ys = true) : ys = srt l := srt_unique (hp.trans (srt_perm l).symm) (sorted_pw h) (srt_pw l)
theorem mem_srt {l : List Str} {x : Str} : x ∈ srt l ↔ x ∈ l := (srt_perm l).mem_iff
/-- each once -/
def nub : List Str → List Str
  | [] => []
  | x :: l => if x ∈ l then nub l else x :: nub l
theorem mem_nub {l : List Str} {x : Str} : x ∈ nub l ↔ x ∈ l := by
  induction l with
  | nil => exact Iff.rfl
  | cons a l ih =>
    unfold nub
    split
    · rename_i h
      rw [ih, List.mem_cons]
      exact ⟨.inr, fun z => z.elim (fun e => e ▸ h) id⟩
    · rw [List.mem_cons, List.mem_cons, ih]
theorem nub_nodup (l : List Str) : (nub l).Nodup := by
  induction l with
  | nil => exact List.Pairwise.nil
  | cons a l ih =>
    unfold nub
    split
    · exact ih
    · rename_i h
      exact List.nodup_cons.mpr ⟨fun z => h (mem_nub.mp z), ih⟩
/-- sorted(set(l)) -/
def sset (l : List Str) : List Str := srt (nub l)
theorem sset_of {l ys : List Str} (h : sortedS ys = true) (hd : ys.Nodup) (hm : ∀ x, x ∈ ys ↔ x ∈ l) : ys = sset l :=
  srt_of ((List.perm_ext_iff_of_nodup hd (nub_nodup l)).mpr fun x => (hm x).trans mem_nub.symm) h
/-! lists of texts as values -/
def strL (l : List Str) : List V := l.map V.str
theorem strL_get {l : List Str} {i : Nat} {x : V} (h : (strL l)[i]? = some x) : ∃ n, l[i]? = some n ∧ x = .str n := by
  unfold strL at h
  rw [List.getElem?_map] at h
  cases e : l[i]? with
  | none => rw [e] at h; cases h
  | some n => rw [e] at h; exact ⟨n, rfl, (Option.some.inj h).symm⟩
theorem strL_len (l : List Str) : (strL l).length = l.length := List.length_map _
theorem strL_app (l m : List Str) : strL (l ++ m) = strL l ++ strL m := List.map_append
theorem strL_flat (l : List Str) : (strL l).all flatV = true := by
  unfold strL
  rw [List.all_map]
  exact List.all_eq_true.mpr fun _ _ => rfl
theorem inV_str (x : Str) (l : List Str) : inV (.str x) (strL l) = decide (x ∈ l) := by
  unfold inV strL
  induction l with
  | nil => rfl
  | cons a l ih =>
    rw [List.map_cons, List.any_cons, ih]
    show ((a == x) || _) = _
    by_cases e : a = x
    · subst e; simp
    · have e1 : (a == x) = false := by rw [beq_eq_false_iff_ne]; exact e
      rw [e1, Bool.false_or]
      simp [Ne.symm e]
/-! steps -/
abbrev oLenS : List V → Hp → VK → Prop := fun xs H Q => ∃ z, xs = [.str z] ∧ z.length ≤ sizeLine ∧ Q (.int z.length) H
section
variable {K : PySem.W.Frag} {σ : L2.St} {H : Hp} {Q : VK} {z : Str} {a b : Addr} {xs ys : List Str}
theorem r_lenS (h : z.length ≤ sizeLine) (q : Q (.int z.length) H) : oLenS [.str z] H Q := ⟨z, rfl, h, q⟩
theorem r_inS {c : Nat} (q : Q (.bl (decide (c ∈ z.cps.toList))) H) : rInS (.str ⟨#[c]⟩) (.str z) H Q := ⟨c, z, rfl, rfl, q⟩
theorem r_notInS {c : Nat} (q : Q (.bl (!decide (c ∈ z.cps.toList))) H) : rNotInS (.str ⟨#[c]⟩) (.str z) H Q := ⟨c, z, rfl, rfl, q⟩
theorem r_iStr {te : TE} {R : It → Hp → Prop} (q : te σ H fun v H1 => ∃ x, v = .str x ∧ R (Its x) H1) : iStr te σ H R := q
theorem r_strx {P : Str → Prop} (q : P z) : ∃ x, V.str z = .str x ∧ P x := ⟨z, rfl, q⟩
theorem r_chain {r r' : R2} {ta tb tc : TE} (q : ta σ H fun x H1 => tb σ H1 fun y H2 => r x y H2 fun v H3 => ∃ c, v = .bl c ∧ if c = true then tc σ H3 fun z H4 => r' y z H4 Q else Q (.bl false) H3) : tChain r r' ta tb tc σ H Q := q
theorem r_lc2 {P : Bool → Prop} {x : Bool} (q : P x) : ∃ c, V.bl x = .bl c ∧ P c := ⟨x, rfl, q⟩
/-! comparing -/
theorem dpA_strs : ∀ xs : List Str, DpAll K H (strL xs) (xs.map PyData.str)
  | [] => .nil
  | x :: xs => .cons (.str x) (dpA_strs xs)
theorem lay_strs (hs : ∀ x ∈ xs, (PyData.str x).canLay0 = true) : PyData.canLayAll0 (xs.map PyData.str) = true ∧ PyData.depthAll (xs.map PyData.str) = 0 := by
  induction xs with
  | nil => exact ⟨by simp [PyData.canLayAll0], by simp [PyData.depthAll]⟩
  | cons x xs ih =>
    obtain ⟨h1, h2⟩ := ih fun y hy => hs y (List.mem_cons_of_mem _ hy)
    refine ⟨by simp [PyData.canLayAll0, h1, hs x (List.mem_cons_self ..)], ?_⟩
    simp only [List.map_cons, PyData.depthAll, PyData.depth]
    omega
/-- two lists of any items, one of them empty: xs == [], xs != [] -/
theorem nil_eqX {vs : List V} (h : SqL K H a vs) (h2 : SqL K H b []) (hd : ∃ ds, DpAll K H vs ds ∧ PyData.canLayAll0 ds = true ∧ PyData.depthAll ds ≤ 60) (q : Q (.bl vs.isEmpty) H) : rEqX K (.ref a) (.ref b) H Q := by
  obtain ⟨ds, d1, d2, d3⟩ := hd
  refine .inr (.inl ⟨.list ds, .list [], .lst h d1, .lst h2 .nil, ?_, ?_, ?_⟩)
  · exact Bool.and_eq_true_iff.mpr ⟨by simp only [PyData.canLay0]; exact d2, decide_eq_true (by simp only [PyData.depth]; omega)⟩
  · decide +kernel
  · cases d1 with
    | nil => simpa [PyData.eqv, PyData.eqvAll] using q
    | cons _ _ => simpa [PyData.eqv, PyData.eqvAll] using q
theorem nil_neX {vs : List V} (h : SqL K H a vs) (h2 : SqL K H b []) (hd : ∃ ds, DpAll K H vs ds ∧ PyData.canLayAll0 ds = true ∧ PyData.depthAll ds ≤ 60) (q : Q (.bl (!vs.isEmpty)) H) : rNeX K (.ref a) (.ref b) H Q := by
  obtain ⟨ds, d1, d2, d3⟩ := hd
  refine .inr (.inl ⟨.list ds, .list [], .lst h d1, .lst h2 .nil, ?_, ?_, ?_⟩)
  · exact Bool.and_eq_true_iff.mpr ⟨by simp only [PyData.canLay0]; exact d2, decide_eq_true (by simp only [PyData.depth]; omega)⟩
  · decide +kernel
  · cases d1 with
    | nil => simpa [PyData.eqv, PyData.eqvAll] using q
    | cons _ _ => simpa [PyData.eqv, PyData.eqvAll] using q
theorem strs_dp (hx : ∀ x ∈ xs, (PyData.str x).canLay0 = true) : ∃ ds, DpAll K H (strL xs) ds ∧ PyData.canLayAll0 ds = true ∧ PyData.depthAll ds ≤ 60 :=
  ⟨_, dpA_strs xs, (lay_strs hx).1, by rw [(lay_strs hx).2]; decide⟩
end
end CP

set_option Elab.async false
set_option linter.all false
set_option maxRecDepth 100000
set_option maxHeartbeats 4000000
set_option autoImplicit false
/-! == and != of instances of a class with its own __eq__ (and no own __ne__) -/
namespace CP
open PySem L2 PySem.W PyProof.Rows
section
variable {prog : Program} {w : World} {A : Around} {E : Value → Shared → Prop} {s : Shared} {K : Frag} {x C L f : Addr} {h₀ : Heap} {m : Str → Option Value} {ox : Obj} {od : Option Obj} {b tb : Value}
end
/-- what isinstance asks of a class -/
structure ClsI (K : Frag) (C : Addr) : Prop where
  cl : Cls K C
  at_ : findIn K (.ref C) "__class__" = some (some (.builtin "object.__class__"))
  sp : specialIn K (.builtin "object.__class__") "__get__" = some (some (.builtin "getset_descriptor.__get__"))
  tk : takesIn K (.builtin "object.__class__") = some true
  mro : mroIn K C (.type "object") = some true
/-- what has to be known of such a class -/
structure OwnEq (K : Frag) (C f : Addr) : Prop where
  eq : findIn K (.ref C) "__eq__" = some (some (.ref f))
  fn : isFn K (.ref f) = true
  ne : findIn K (.ref C) "__ne__" = some (some (.builtin "object.__ne__"))
  ob : subIn K (.ref C) (.type "object") = some true
section
variable {X : Cx} {CX : CXT} {k : Nat} {C f : Addr} {fd : FuncData} {ps : List Str} {sp : Sp} {E : XK}
end
end CP

set_option Elab.async false
set_option linter.all false
set_option maxRecDepth 100000
set_option maxHeartbeats 4000000
set_option autoImplicit false
/-! plain tables as values: letters, products, sides, rows -/
namespace CP
open L2 PySem PyProof.Rows
def smallT : Str := "abcdefghijklmnopqrstuvwxyz"
def letB (z : Str) : Bool := decide (1 ≤ z.length ∧ z.length ≤ 10) && z.cps.toList.all fun c => decide (c ∈ smallT.cps.toList)
theorem small_low : ∀ c ∈ smallT.cps.toList, c < 0x110000 := by decide +kernel
theorem let_lay {z : Str} (h : letB z = true) : (PyData.str z).canLay0 = true := by
  unfold letB at h
  rw [Bool.and_eq_true] at h
  simp only [PyData.canLay0]
  show z.cps.all (· < 0x110000) = true
  rw [← Array.all_toList, List.all_eq_true]
  intro c hc
  exact decide_eq_true (small_low c (of_decide_eq_true (List.all_eq_true.mp h.2 c hc)))
theorem let_len {z : Str} (h : letB z = true) : 1 ≤ z.length ∧ z.length ≤ 10 := by
  unfold letB at h
  rw [Bool.and_eq_true] at h
  exact of_decide_eq_true h.1
abbrev Sd := Str × List Str × List Str
/-- a product of letters -/
def Lets (l : List Str) : Prop := (∀ x ∈ l, letB x = true) ∧ l.length ≤ 30
theorem Lets.lay {l : List Str} (h : Lets l) : ∀ x ∈ l, (PyData.str x).canLay0 = true := fun x hx => let_lay (h.1 x hx)
theorem Lets.perm {l m : List Str} (h : Lets l) (p : m.Perm l) : Lets m := ⟨fun x hx => h.1 x (p.mem_iff.mp hx), by rw [p.length_eq]; exact h.2⟩
/-- sides that make a table -/
structure Rows (rows : List Sd) : Prop where
  ne : rows ≠ []
  few : rows.length ≤ 20
  name : ∀ r ∈ rows, letB r.1 = true
  size : ∀ r ∈ rows, Lets r.2.1
  step : ∀ r ∈ rows, Lets r.2.2
  dis : (rows.map (·.1)).Nodup
  out : ∀ r ∈ rows, ∀ x ∈ r.2.1 ++ r.2.2, x ∉ rows.map (·.1)
def SideAt (H : Hp) (v : V) (r : Sd) : Prop := ∃ t a b, v = .ref t ∧ H t = some (.tup [.str r.1, .ref a, .ref b]) ∧ H a = some (.lst (strL r.2.1)) ∧ H b = some (.lst (strL r.2.2))
theorem SideAt.mono {H H' : Hp} {v : V} {r : Sd} (h : SideAt H v r) (s : Same H H') : SideAt H' v r := by
  obtain ⟨t, a, b, e, h1, h2, h3⟩ := h
  exact ⟨t, a, b, e, s _ _ h1, s _ _ h2, s _ _ h3⟩
def RowsAt (H : Hp) (p : Addr) (rows : List Sd) : Prop := ∃ vs, H p = some (.lst vs) ∧ Paired (SideAt H) vs rows
theorem RowsAt.mono {H H' : Hp} {p : Addr} {rows : List Sd} (h : RowsAt H p rows) (s : Same H H') : RowsAt H' p rows := by
  obtain ⟨vs, e, pr⟩ := h
  exact ⟨vs, s _ _ e, pd_mono pr fun _ _ z => SideAt.mono z s⟩
theorem sides_mono {H H' : Hp} {vs : List V} {rows : List Sd} (h : Paired (SideAt H) vs rows) (s : Same H H') : Paired (SideAt H') vs rows := pd_mono h fun _ _ z => SideAt.mono z s
/-! as data -/
def sideD (r : Sd) : PyData := .tuple [.str r.1, .list (r.2.1.map .str), .list (r.2.2.map .str)]
theorem side_dp {K : PySem.W.Frag} {H : Hp} {v : V} {r : Sd} (h : SideAt H v r) : Dp K H v (sideD r) := by
  obtain ⟨t, a, b, rfl, h1, h2, h3⟩ := h
  exact .tup (.of h1) (.cons (.str _) (.cons (.lst (.of h2) (dpA_strs _)) (.cons (.lst (.of h3) (dpA_strs _)) .nil)))
theorem rows_dp {K : PySem.W.Frag} {H : Hp} {vs : List V} {rows : List Sd} (h : Paired (SideAt H) vs rows) : DpAll K H vs (rows.map sideD) := by
  induction h with
  | nil => exact .nil
  | cons h _ ih => exact .cons (side_dp h) ih
theorem side_lay {r : Sd} (h0 : (PyData.str r.1).canLay0 = true) (h1 : ∀ x ∈ r.2.1, (PyData.str x).canLay0 = true) (h2 : ∀ x ∈ r.2.2, (PyData.str x).canLay0 = true) : (sideD r).canLay0 = true ∧ (sideD r).depth = 2 := by
  obtain ⟨a1, a2⟩ := lay_strs h1
  obtain ⟨b1, b2⟩ := lay_strs h2
  have h0' := h0
  simp only [PyData.canLay0] at h0'
  refine ⟨by simp [sideD, PyData.canLay0, PyData.canLayAll0, a1, b1, h0'], ?_⟩
  simp only [sideD, PyData.depth, PyData.depthAll, a2, b2]
  rfl
theorem rows_lay {rows : List Sd} (h : ∀ r ∈ rows, (sideD r).canLay0 = true ∧ (sideD r).depth = 2) : PyData.canLayAll0 (rows.map sideD) = true ∧ PyData.depthAll (rows.map sideD) ≤ 2 := by
  induction rows with
  | nil => exact ⟨by simp [PyData.canLayAll0], by simp [PyData.depthAll]⟩
  | cons r rows ih =>
    obtain ⟨i1, i2⟩ := ih fun x hx => h x (List.mem_cons_of_mem _ hx)
    obtain ⟨a1, a2⟩ := h r (List.mem_cons_self ..)
    refine ⟨by simp [PyData.canLayAll0, a1, i1], ?_⟩
    simp only [List.map_cons, PyData.depthAll]
    omega
theorem Rows.lay {rows : List Sd} (h : Rows rows) : ∀ r ∈ rows, (sideD r).canLay0 = true ∧ (sideD r).depth = 2 := fun r hr => side_lay (let_lay (h.name r hr)) (h.size r hr).lay (h.step r hr).lay
theorem Rows.dp {K : PySem.W.Frag} {H : Hp} {vs : List V} {rows : List Sd} (h : Rows rows) (p : Paired (SideAt H) vs rows) : ∃ ds, DpAll K H vs ds ∧ PyData.canLayAll0 ds = true ∧ PyData.depthAll ds ≤ 60 :=
  ⟨_, rows_dp p, (rows_lay h.lay).1, Nat.le_trans (rows_lay h.lay).2 (by decide)⟩
section
variable {K : PySem.W.Frag} {H : Hp} {Q : VK} {a b : Addr} {xs ys : List Str} {vs : List V}
theorem tnil_eqX (h : SqT K H a vs) (h2 : SqT K H b []) (hd : ∃ ds, DpAll K H vs ds ∧ PyData.canLayAll0 ds = true ∧ PyData.depthAll ds ≤ 60) (q : Q (.bl vs.isEmpty) H) : rEqX K (.ref a) (.ref b) H Q := by
  obtain ⟨ds, d1, d2, d3⟩ := hd
  refine .inr (.inl ⟨.tuple ds, .tuple [], .tup h d1, .tup h2 .nil, ?_, ?_, ?_⟩)
  · exact Bool.and_eq_true_iff.mpr ⟨by simp only [PyData.canLay0]; exact d2, decide_eq_true (by simp only [PyData.depth]; omega)⟩
  · decide +kernel
  · cases d1 with
    | nil => simpa [PyData.eqv, PyData.eqvAll] using q
    | cons _ _ => simpa [PyData.eqv, PyData.eqvAll] using q
theorem nil_eqX0 (h : SqL K H a []) (h2 : SqL K H b []) (q : Q (.bl true) H) : rEqX K (.ref a) (.ref b) H Q := nil_eqX h h2 ⟨[], .nil, by decide +kernel, by decide +kernel⟩ q
theorem nil_neX0 (h : SqL K H a []) (h2 : SqL K H b []) (q : Q (.bl false) H) : rNeX K (.ref a) (.ref b) H Q := nil_neX h h2 ⟨[], .nil, by decide +kernel, by decide +kernel⟩ q
theorem nil_neX1 {v : V} (h : SqL K H a (v :: vs)) (h2 : SqL K H b []) (hd : ∃ ds, DpAll K H (v :: vs) ds ∧ PyData.canLayAll0 ds = true ∧ PyData.depthAll ds ≤ 60) (q : Q (.bl true) H) : rNeX K (.ref a) (.ref b) H Q := nil_neX h h2 hd q
theorem r_inStr {x : Str} (h : SqL K H a (strL xs)) (q : Q (.bl (decide (x ∈ xs))) H) : rIn K false (.str x) (.ref a) H Q := r_in h rfl (strL_flat _) (by rw [inV_str]; exact q)
theorem r_niStr {x : Str} (h : SqL K H a (strL xs)) (q : Q (.bl (!decide (x ∈ xs))) H) : rIn K true (.str x) (.ref a) H Q := r_in h rfl (strL_flat _) (by rw [inV_str]; exact q)
theorem r_slA {lo hi : Option Int} (h : SqT K H a vs) (hw : ¬ (HT.sIx vs.length 0 lo = 0 ∧ HT.sIx vs.length vs.length hi = vs.length)) (q : ∀ l H', H l = none → Same H H' → H' l = some (.tup (cutV vs lo hi)) → Q (.ref l) H') : rSlA K (.ref a) lo hi H Q :=
  ⟨a, vs, rfl, h, fun z => absurd z hw, fun _ p hp => q p _ hp (same_new hp) upd_same⟩
end
/-- what an item of the rows is -/
theorem side_at {H H' : Hp} {vs : List V} {rows : List Sd} (pr : Paired (SideAt H) vs rows) (s : Same H H') {i : Nat} {x : V} (hx : vs[i]? = some x) :
    ∃ r t a b, rows[i]? = some r ∧ r ∈ rows ∧ x = .ref t ∧ H' t = some (.tup [.str r.1, .ref a, .ref b]) ∧ H' a = some (.lst (strL r.2.1)) ∧ H' b = some (.lst (strL r.2.2)) := by
  obtain ⟨r, hr, t, a, b, e, h1, h2, h3⟩ := pd_get pr hx
  exact ⟨r, t, a, b, hr, List.mem_of_getElem? hr, e, s _ _ h1, s _ _ h2, s _ _ h3⟩
/-! tables as objects -/
def srow (r : Sd) : Sd := (r.1, srt r.2.1, srt r.2.2)
def TabAt (C : Addr) (H : Hp) (o : Addr) (rows : List Sd) : Prop := ∃ dx p, H o = some (.ins C dx [("row", .ref p)]) ∧ RowsAt H p rows
theorem TabAt.mono {C : Addr} {H H' : Hp} {o : Addr} {rows : List Sd} (h : TabAt C H o rows) (s : Same H H') : TabAt C H' o rows := by
  obtain ⟨dx, p, h1, h2⟩ := h
  exact ⟨dx, p, s _ _ h1, h2.mono s⟩
theorem Rows.srow {rows : List Sd} (h : Rows rows) : Rows (rows.map srow) := by
  have e : (rows.map CP.srow).map (·.1) = rows.map (·.1) := by rw [List.map_map]; rfl
  refine ⟨fun z => h.ne (List.map_eq_nil_iff.mp z), by rw [List.length_map]; exact h.few, fun r hr => ?_, fun r hr => ?_, fun r hr => ?_, by rw [e]; exact h.dis, fun r hr x hx => ?_⟩
  · obtain ⟨u, hu, rfl⟩ := List.mem_map.mp hr; exact h.name u hu
  · obtain ⟨u, hu, rfl⟩ := List.mem_map.mp hr; exact (h.size u hu).perm (srt_perm _)
  · obtain ⟨u, hu, rfl⟩ := List.mem_map.mp hr; exact (h.step u hu).perm (srt_perm _)
  · obtain ⟨u, hu, rfl⟩ := List.mem_map.mp hr
    rw [e]
    refine h.out u hu x ?_
    rcases List.mem_append.mp hx with z | z
    · exact List.mem_append_left _ (mem_srt.mp z)
    · exact List.mem_append_right _ (mem_srt.mp z)
section
variable {K : PySem.W.Frag} {w : World} {σ : L2.St} {H : Hp} {Q : VK} {a o C dx : Addr} {l : List Str} {fs : List (Str × V)} {f : Str} {v : V} {te ta tv : TE} {tas : TA} {D : Ends}
theorem r_sortS (h : SqL K H a (strL l)) (hn : l.length < 64) (q : ∀ p H', H p = none → Same H H' → H' p = some (.lst (strL (srt l))) → Q (.ref p) H') : rSortedS K [.ref a] H Q :=
  ⟨a, l, rfl, h, hn, fun ys p hp hs h0 => by
    rw [srt_of hp hs]
    exact q p _ h0 (same_new h0) upd_same⟩
theorem r_tfld (q : ta σ H fun x H1 => ∃ a C dx fs v, x = .ref a ∧ H1 a = some (.ins C dx fs) ∧ Cls K C ∧ NoAttr K C f ∧ fs.lookup f = some v ∧ Q v H1) : tFld K ta f σ H Q := q
theorem r_fget {P : V → Prop} (h : H o = some (.ins C dx fs)) (c : Cls K C) (n : NoAttr K C f) (l : fs.lookup f = some v) (q : P v) : ∃ a C dx fs v, V.ref o = .ref a ∧ H a = some (.ins C dx fs) ∧ Cls K C ∧ NoAttr K C f ∧ fs.lookup f = some v ∧ P v := ⟨o, C, dx, fs, v, rfl, h, c, n, l, q⟩
theorem r_sfld (q : tv σ H fun y H1 => ta σ H1 fun x H2 => ∃ a C dx fs, x = .ref a ∧ H2 a = some (.ins C dx fs) ∧ Cls K C ∧ NoAttr K C f ∧ fs.length < 1000 ∧ D.nx σ (upd H2 a (.ins C dx (putF f y fs)))) : sFld K ta tv f D σ H := q
theorem r_fput {N : Hp → Prop} (h : H o = some (.ins C dx fs)) (c : Cls K C) (n : NoAttr K C f) (l : fs.length < 1000) (q : ∀ H', SB o H H' → H' o = some (.ins C dx (putF f v fs)) → N H') : ∃ a C dx fs, V.ref o = .ref a ∧ H a = some (.ins C dx fs) ∧ Cls K C ∧ NoAttr K C f ∧ fs.length < 1000 ∧ N (upd H a (.ins C dx (putF f v fs))) :=
  ⟨o, C, dx, fs, rfl, h, c, n, l, q _ sb_upd upd_same⟩
theorem r_tmake {sp : Sp} {dvs : List V} {E : XK} (q : tas σ H fun vs H1 => ∀ x dx, H1 x = none → H1 dx = none → dx ≠ x → sp (.ref x :: (vs ++ dvs)) (upd (upd H1 dx (.own x)) x (.ins C dx [])) (fun v H2 => v = .non ∧ Q (.ref x) H2) E) : tMake C sp dvs E tas σ H Q := q
theorem r_tmeth {sp : Sp} {dvs : List V} {E : XK} {m : Str} (q : ta σ H fun x H1 => ∃ a dx fs, x = .ref a ∧ H1 a = some (.ins C dx fs) ∧ fs.lookup m = none ∧ tas σ H1 fun vs H2 => sp (x :: (vs ++ dvs)) H2 Q E) : tMeth C m sp dvs E ta tas σ H Q := q
end
section
variable {K : PySem.W.Frag} {H : Hp} {Q : VK} {o C dx : Addr} {fs : List (Str × V)}
theorem r_isiC (h : H o = some (.ins C dx fs)) (c : ClsI K C) (q : Q (.bl true) H) : rIsi K [.ref o, .ref C] H Q := ⟨.ref o, .ref C, .ref C, .ref C, true, rfl, .own C, .base (.ins h c.cl c.at_ c.sp c.tk c.mro), by simp [PySem.W.kitOne], q⟩
end
/-- all letters of the products, each one once, in order -/
def sizesM (rows : List Sd) : List Str := sset (rows.flatMap fun r => r.2.1 ++ r.2.2)
section
variable {K : PySem.W.Frag} {a : Addr} {g : TG} {tt : TT} {te : TE} {vs : List Nat} {σ : L2.St} {H1 : Hp} {D : Addr} {Qd : Hp → Prop}
/-- a comprehension over texts that leaves some out -/
theorem lc_strF {l : List Str} (p : Str → Bool) (hD : H1 D = none) (ha : SqL K H1 a (strL l)) (hz : l.length < sizeLine)
    (hs : ∀ (i : Nat) (x : Str) (H : Hp), l[i]? = some x → Same H1 H → Turn (β := V) g tt te vs σ (fun _ x b => x = b) D H (.str x) (if p x = true then some (.str x) else none)) (hd : ∀ H, Same H1 H → H D = some (.lst (strL (l.filter p))) → Qd H) :
    ∃ W : Nat → Nat → Hp → Prop, (∃ m, W 0 m (upd H1 D (.lst []))) ∧ ∀ i m H, W i m H →
      ((Itl K a).stop i H ∧ Qd H) ∨ ((Itl K a).go i H ∧ ∃ Nx : Hp → Prop, (∀ H', Nx H' → ∃ m', m' < m ∧ W (i + 1) m' H') ∧ ∀ x H', (Itl K a).yld i H x H' → g x (wipe σ vs) H' fun σ2 H2 => wipe σ2 vs = wipe σ vs ∧ tt σ2 H2 fun b H3 =>
        if b = true then te σ2 H3 fun y H4 => ∃ acc, H4 D = some (.lst acc) ∧ acc.length < sizeLine ∧ Nx (upd H4 D (.lst (acc ++ [y]))) else Nx H3) := by
  refine lc_tell (β := V) (fun _ x b => x = b) (l.map fun x => if p x = true then some (.str x) else none) hD ha (by rw [strL_len, List.length_map]) (by rw [List.length_map]; exact hz) (fun _ _ _ _ _ z => z) (fun i x o H hx ho s1 _ => ?_) fun H acc s1 hacc pp => ?_
  · obtain ⟨z, hz, rfl⟩ := strL_get hx
    have e : o = if p z = true then some (.str z) else none := by
      rw [List.getElem?_map, hz] at ho
      exact (Option.some.inj ho).symm
    subst e
    exact hs i z H hz s1
  · have e : acc = strL (l.filter p) := by
      rw [pd_eq pp, List.filterMap_map]
      clear pp hs hz ha hd
      induction l with
      | nil => rfl
      | cons x l ih =>
        by_cases c : p x = true
        · rw [List.filterMap_cons_some (b := V.str x) (by show (if p x = true then some (V.str x) else none) = _; rw [if_pos c]), ih, List.filter_cons_of_pos c]
          rfl
        · rw [List.filterMap_cons_none (by show (if p x = true then some (V.str x) else none) = _; rw [if_neg c]), ih, List.filter_cons_of_neg c]
    rw [e] at hacc
    exact hd H s1 hacc
end
end CP

set_option Elab.async false
set_option linter.all false
set_option maxRecDepth 100000
set_option maxHeartbeats 4000000
set_option autoImplicit false
/-! lists of texts: remove, count -/
namespace CP
open L2 PySem PySem.Spec PyProof.Rows
def isTxt (k : Str) : Value → Bool
  | .str z _ => z == k
  | _ => false
theorem txt_beq (x y : Str) : (x.cps.toList == y.cps.toList) = (x == y) := by
  rw [Bool.eq_iff_iff, beq_iff_eq, beq_iff_eq]
  refine ⟨fun h => ?_, fun h => congrArg (fun z : Str => z.cps.toList) h⟩
  cases x
  cases y
  exact congrArg Str.mk (Array.toList_inj.mp h)
theorem txt_erase : ∀ (l : List Str) (j : Nat), strL (l.eraseIdx j) = (strL l).eraseIdx j
  | [], 0 => rfl
  | [], _ + 1 => rfl
  | _ :: _, 0 => rfl
  | z :: l, j + 1 => congrArg (List.cons (V.str z)) (txt_erase l j)
theorem txt_gives {k : Str} {t : Tok} : ∀ {l : List Str} {us : List Value}, Vals (strL l) us → ∀ y ∈ us, MeetsSeq.EqGives y (.str k t) (isTxt k y)
  | [], _, .nil, y, hy => nomatch hy
  | z :: l, _, .cons (l₂ := us) ⟨tz, ez⟩ r, y, hy => by
    subst ez
    rcases List.mem_cons.mp hy with rfl | hy
    · have := PySem.SeqRoads2.EqGives.str z k tz t
      rw [txt_beq] at this
      exact this
    · exact txt_gives (l := l) r y hy
theorem erase_at {k : Str} : ∀ {l : List Str}, k ∈ l → ∃ j, l[j]? = some k ∧ (∀ m, m < j → l[m]? ≠ some k) ∧ l.erase k = l.eraseIdx j
  | [], h => nomatch h
  | z :: l, h => by
    by_cases e : z = k
    · subst e
      exact ⟨0, rfl, fun _ h => absurd h (Nat.not_lt_zero _), by rw [List.erase_cons_head]; rfl⟩
    · obtain ⟨j, h1, h2, h3⟩ := erase_at (l := l) ((List.mem_cons.mp h).resolve_left (Ne.symm e))
      refine ⟨j + 1, h1, fun m hm => ?_, ?_⟩
      · cases m with
        | zero => exact fun z => e (Option.some.inj z)
        | succ m => exact h2 m (by omega)
      · rw [List.erase_cons_tail (by simpa using e), h3]
        rfl
section
variable {X : Cx}
def rRemS : V → List V → Hp → VK → Prop := fun x xs H Q => ∃ (l : Addr) (ns : List Str) (k : Str), x = .ref l ∧ xs = [.str k] ∧ H l = some (.lst (strL ns)) ∧ k ∈ ns ∧ Q .non (upd H l (.lst (strL (ns.erase k))))
theorem mt_remS : MtM X "list.remove" rRemS := by
  intro pins s σ H x xs v us Q I rx rxs ⟨l, ns, k, ex, exs, hH, hk, q⟩
  subst ex exs
  obtain ⟨j, hj, hno, hr⟩ := erase_at hk
  cases rx
  obtain ⟨u, eu, t, et⟩ := rxs.one
  subst eu et
  obtain ⟨z, its, n, r, hl, e⟩ := I.lstM hH
  have gv := txt_gives (k := k) (t := t) r
  have ln : its.length = ns.length := by rw [← r.length, strL_len]
  rw [strL_len] at hl z
  have jn : j < ns.length := (List.getElem?_eq_some_iff.mp hj).1
  have at_ : ∀ (m : Nat) (hm : m < its.toArray.size), ∃ tm, its.toArray[m] = .str (ns[m]'(by rw [List.size_toArray] at hm; omega)) tm := fun m hm => by
    have hm' : m < ns.length := by rw [List.size_toArray] at hm; omega
    obtain ⟨w, hw, tm, ew⟩ := r.get (i := m) (x := .str ns[m]) (by unfold strL; rw [List.getElem?_map, List.getElem?_eq_getElem hm']; rfl)
    subst ew
    obtain ⟨_, h2⟩ := List.getElem?_eq_some_iff.mp hw
    exact ⟨tm, by simpa using h2⟩
  have js : j < its.toArray.size := by rw [List.size_toArray]; omega
  refine call_meets PySem.F.slot_list_remove ⟨_, e, rfl⟩ PySem.F.entry_list_remove (PySem.F.args_list_remove_2 _ _)
    (MeetsSeq.list_remove l its.toArray n (.str k t) (isTxt k) (fun y hy => gv y (by simpa using hy)) j js ?_ (fun m hm lt => ?_) (by rw [List.size_toArray]; omega)) ⟨e, .non, _, I.lset (its' := its.eraseIdx j) (t' := s.toks) (ys := strL (ns.erase k)) hH e ?_ ?_ ?_, rfl, q⟩
  · obtain ⟨tm, em⟩ := at_ j js
    rw [em, (List.getElem?_eq_some_iff.mp hj).2]
    exact beq_self_eq_true k
  · obtain ⟨tm, em⟩ := at_ m hm
    rw [em]
    refine beq_eq_false_iff_ne.mpr fun h => hno m lt ?_
    have hm' : m < ns.length := by omega
    rw [List.getElem?_eq_getElem hm', h]
  · show its.toArray.eraseIdxIfInBounds j = (its.eraseIdx j).toArray
    rw [List.eraseIdxIfInBounds_toArray]
  · have e1 : strL (ns.erase k) = (strL ns).eraseIdx j := by
      rw [hr]
      exact txt_erase ns j
    rw [e1]
    exact r.eraseIdx j
  · rw [strL_len]
    have := List.length_erase_le (a := k) (l := ns)
    omega
end
section
variable {K : PySem.W.Frag} {H : Hp} {Q : VK} {l : Addr} {ns : List Str} {xs : List V} {k : Str} {i : Int} {y : V}
theorem r_remS (h : H l = some (.lst (strL ns))) (hk : k ∈ ns) (q : ∀ H', SB l H H' → H' l = some (.lst (strL (ns.erase k))) → Q .non H') : rRemS (.ref l) [.str k] H Q := ⟨l, ns, k, rfl, rfl, h, hk, q _ sb_upd upd_same⟩
def rInsL : V → List V → Hp → VK → Prop := fun x vs H Q => ∃ (l : Addr) (xs : List V) (i : Int) (y : V), x = .ref l ∧ vs = [.int i, y] ∧ H l = some (.lst xs) ∧ xs.length < sizeLine ∧ 0 ≤ i ∧ i < 2 ^ 63 ∧ Q .non (upd H l (.lst (xs.take i.toNat ++ [y] ++ xs.drop i.toNat)))
theorem r_insL (h : H l = some (.lst xs)) (hz : xs.length < sizeLine) (h0 : 0 ≤ i) (h1 : i < 2 ^ 63) (q : ∀ H', SB l H H' → H' l = some (.lst (xs.take i.toNat ++ [y] ++ xs.drop i.toNat)) → Q .non H') : rInsL (.ref l) [.int i, y] H Q := ⟨l, xs, i, y, rfl, rfl, h, hz, h0, h1, q _ sb_upd upd_same⟩
end
theorem mt_insL {X : Cx} : MtR X "list.insert" rInsL := mt_insert
end CP

set_option Elab.async false
set_option linter.all false
set_option maxRecDepth 100000
set_option maxHeartbeats 4000000
set_option autoImplicit false
/-! what the functions of plain compute -/
namespace CP
open L2 PySem PyProof.Rows
theorem drop_succ {α : Type} {l : List α} {i : Nat} {x : α} (h : l[i]? = some x) : l.drop i = x :: l.drop (i + 1) := by
  obtain ⟨h1, h2⟩ := List.getElem?_eq_some_iff.mp h
  rw [List.drop_eq_getElem_cons h1, h2]
/-- a product taken out of another -/
def restOf : List Str → List Str → Option (List Str)
  | l, [] => some l
  | l, k :: o => if k ∈ l then restOf (l.erase k) o else none
/-- the first side's step times its size divides the second one's step -/
def aheadB (r s : Sd) : Bool := (restOf s.2.2 (r.2.1 ++ r.2.2)).isSome
/-- the sides laid one by one in their order -/
def ordGo : List Sd → List Sd → List Sd ⊕ (Sd × Sd)
  | found, [] => .inl found
  | found, r :: rs => if r.2.1 = [] then ordGo found rs else
      match found.filter fun f => !aheadB f r && !aheadB r f with
      | w :: _ => .inr (w, r)
      | [] => ordGo (found.take (found.filter fun f => aheadB f r).length ++ [r] ++ found.drop (found.filter fun f => aheadB f r).length) rs
def orderM (rows : List Sd) : List Sd ⊕ (Sd × Sd) := ordGo [] rows
theorem filter_opt {α : Type} (p : α → Bool) (l : List α) : (l.map fun r => if p r = true then some r else none).filterMap id = l.filter p := by
  induction l with
  | nil => rfl
  | cons a l ih =>
    rw [List.map_cons, List.filter_cons]
    cases e : p a with
    | true => simp only [if_true, List.filterMap_cons, id_eq]; rw [ih]
    | false => simp only [Bool.false_eq_true, if_false, List.filterMap_cons, id_eq]; exact ih
theorem SideAt.hid {D : Addr} {H1 H : Hp} {v : V} {r : Sd} (h : SideAt H1 v r) (hD : H1 D = none) (s : Same H1 H) : SideAt (hide D H) v r := by
  have := hide_mono (D := D) s
  rw [hide_none hD] at this
  exact h.mono this
section
variable {K : PySem.W.Frag} {a : Addr} {g : TG} {tt : TT} {te : TE} {vs : List Nat} {σ : L2.St} {H1 : Hp} {D : Addr} {Qd : Hp → Prop}
/-- a comprehension over sides that leaves some out -/
theorem lc_sdF {xs : List V} {fs : List Sd} (p : Sd → Bool) (pr : Paired (SideAt H1) xs fs) (hD : H1 D = none) (ha : SqL K H1 a xs) (hz : fs.length < sizeLine)
    (hs : ∀ (i : Nat) (x : V) (r : Sd) (H : Hp) (N : Hp → Prop), xs[i]? = some x → fs[i]? = some r → SideAt H x r → Same H1 H → (∀ H', p r = false → Same H H' → N H') → (∀ H', p r = true → Same H H' → ∃ acc, H' D = some (.lst acc) ∧ acc.length < sizeLine ∧ N (upd H' D (.lst (acc ++ [x])))) →
      g x (wipe σ vs) H fun σ2 H2 => wipe σ2 vs = wipe σ vs ∧ tt σ2 H2 fun b H3 => if b = true then te σ2 H3 fun y H4 => ∃ acc, H4 D = some (.lst acc) ∧ acc.length < sizeLine ∧ N (upd H4 D (.lst (acc ++ [y]))) else N H3)
    (hd : ∀ H acc, Same H1 H → H D = some (.lst acc) → Paired (SideAt H) acc (fs.filter p) → Qd H) :
    ∃ W : Nat → Nat → Hp → Prop, (∃ m, W 0 m (upd H1 D (.lst []))) ∧ ∀ i m H, W i m H →
      ((Itl K a).stop i H ∧ Qd H) ∨ ((Itl K a).go i H ∧ ∃ Nx : Hp → Prop, (∀ H', Nx H' → ∃ m', m' < m ∧ W (i + 1) m' H') ∧ ∀ x H', (Itl K a).yld i H x H' → g x (wipe σ vs) H' fun σ2 H2 => wipe σ2 vs = wipe σ vs ∧ tt σ2 H2 fun b H3 =>
        if b = true then te σ2 H3 fun y H4 => ∃ acc, H4 D = some (.lst acc) ∧ acc.length < sizeLine ∧ Nx (upd H4 D (.lst (acc ++ [y]))) else Nx H3) := by
  refine lc_tell (β := Sd) SideAt (fs.map fun r => if p r = true then some r else none) hD ha (by rw [List.length_map]; exact pd_len pr) (by rw [List.length_map]; exact hz) (fun _ _ _ _ s z => SideAt.mono z s) (fun i x o H hx ho s1 _ N no yes => ?_) fun H acc s1 hacc pp => ?_
  · obtain ⟨r, hr, sr⟩ := pd_get pr hx
    have e : o = if p r = true then some r else none := by
      rw [List.getElem?_map, hr] at ho
      exact (Option.some.inj ho).symm
    subst e
    refine hs i x r H N hx hr (sr.mono s1) s1 (fun H' h s2 => no H' (by rw [h]; rfl) s2) fun H' h s2 => yes H' x r (by rw [h]; rfl) s2 (sr.hid hD (s1.trans s2))
  · rw [filter_opt] at pp
    exact hd H acc s1 hacc pp
end
theorem pd_take {α β : Type} {R : α → β → Prop} {xs : List α} {ys : List β} (h : Paired R xs ys) : ∀ n, Paired R (xs.take n) (ys.take n) := by
  induction h with
  | nil => intro n; rw [List.take_nil, List.take_nil]; exact .nil
  | cons h _ ih =>
    intro n
    cases n with
    | zero => exact .nil
    | succ n => exact .cons h (ih n)
theorem pd_drop {α β : Type} {R : α → β → Prop} {xs : List α} {ys : List β} (h : Paired R xs ys) : ∀ n, Paired R (xs.drop n) (ys.drop n) := by
  induction h with
  | nil => intro n; rw [List.drop_nil, List.drop_nil]; exact .nil
  | cons h t ih =>
    intro n
    cases n with
    | zero => exact .cons h t
    | succ n => exact ih n
theorem sides_dp {K : PySem.W.Frag} {H : Hp} {vs : List V} {fs : List Sd} (pr : Paired (SideAt H) vs fs) (h : ∀ f ∈ fs, letB f.1 = true ∧ Lets f.2.1 ∧ Lets f.2.2) : ∃ ds, DpAll K H vs ds ∧ PyData.canLayAll0 ds = true ∧ PyData.depthAll ds ≤ 60 := by
  have l := rows_lay (rows := fs) fun r hr => side_lay (let_lay (h r hr).1) (h r hr).2.1.lay (h r hr).2.2.lay
  exact ⟨_, rows_dp pr, l.1, Nat.le_trans l.2 (by decide)⟩
/-- the cell with one index alone -/
def loneM (rows : List Sd) (z : Str) (n : Int) : List Int := rows.map fun r => if r.1 = z then n else 0
/-- a letter that stands oftener in the first -/
def moreM (l o : List Str) : Option Str := l.find? fun k => decide (o.count k < l.count k)
def sharedGo : List Str → List Str → List Str
  | [], _ => []
  | k :: l, o => if k ∈ o then k :: sharedGo l (o.erase k) else sharedGo l o
def sharedM (l o : List Str) : List Str := sharedGo l o
def prodF (f : Str → Int) (l : List Str) : Int := l.foldl (fun a k => a * f k) 1
theorem prodF_app {f : Str → Int} {l : List Str} {k : Str} : prodF f (l ++ [k]) = prodF f l * f k := by
  unfold prodF
  rw [List.foldl_append]
  rfl
theorem foldl_pos {f : Str → Int} : ∀ {l : List Str} {a : Int}, 0 ≤ a → (∀ x ∈ l, 0 ≤ f x) → 0 ≤ l.foldl (fun a k => a * f k) a
  | [], a, h, _ => h
  | k :: l, a, h, hf => foldl_pos (l := l) (Int.mul_nonneg h (hf k (List.mem_cons_self ..))) fun x hx => hf x (List.mem_cons_of_mem _ hx)
theorem prodF_pos {f : Str → Int} {l : List Str} (h : ∀ x ∈ l, 0 ≤ f x) : 0 ≤ prodF f l := foldl_pos (by decide) h
end CP

set_option Elab.async false
set_option linter.all false
set_option maxRecDepth 100000
set_option maxHeartbeats 4000000
set_option autoImplicit false
/-! dict comprehensions stored in a local name; over a list of texts -/
namespace CP
open L2 PySem PyProof.Rows
section
variable {X : Cx}
end
/-- a dict of numbers by letters -/
def dV (l : List (Str × Int)) : List (Key × V) := l.map fun p => (Sum.inr p.1, V.int p.2)
section
variable {K : PySem.W.Frag} {a : Addr} {g : TG} {tt : TT} {tk tv : TE} {vs : List Nat} {σ : L2.St} {H1 : Hp} {D : Addr} {Qd : Hp → Prop} {xs : List V}
theorem dc_list (Pv : Nat → Hp → Prop) (start : Pv 0 (upd H1 D (.dK []))) (stay : ∀ i H, i ≤ xs.length → Pv i H → SqL K H a xs)
    (step : ∀ i x H, xs[i]? = some x → Pv i H → g x (wipe σ vs) H fun σ2 H2 => wipe σ2 vs = wipe σ vs ∧ tt σ2 H2 fun b H3 =>
      if b = true then tk σ2 H3 fun y H4 => tv σ2 H4 fun z H5 => ∃ kvs k, y = kV k ∧ H5 D = some (.dK kvs) ∧ kvs.length < sizeLine ∧ Pv (i + 1) (upd H5 D (.dK (putK kvs k z))) else Pv (i + 1) H3) (fin : ∀ H, Pv xs.length H → Qd H) :
    ∃ W : Nat → Nat → Hp → Prop, (∃ m, W 0 m (upd H1 D (.dK []))) ∧ ∀ i m H, W i m H →
      ((Itl K a).stop i H ∧ Qd H) ∨ ((Itl K a).go i H ∧ ∃ Nx : Hp → Prop, (∀ H', Nx H' → ∃ m', m' < m ∧ W (i + 1) m' H') ∧ ∀ x H', (Itl K a).yld i H x H' → g x (wipe σ vs) H' fun σ2 H2 => wipe σ2 vs = wipe σ vs ∧ tt σ2 H2 fun b H3 =>
        if b = true then tk σ2 H3 fun y H4 => tv σ2 H4 fun z H5 => ∃ kvs k, y = kV k ∧ H5 D = some (.dK kvs) ∧ kvs.length < sizeLine ∧ Nx (upd H5 D (.dK (putK kvs k z))) else Nx H3) := by
  refine ⟨fun i m H => m = xs.length - i ∧ i ≤ xs.length ∧ Pv i H, ⟨_, rfl, Nat.zero_le _, start⟩, fun i m H ⟨em, hi, p⟩ => ?_⟩
  subst em
  have q := stay i H hi p
  rcases Nat.lt_or_ge i xs.length with lt | ge
  · refine .inr ⟨⟨xs, xs[i], q, List.getElem?_eq_getElem lt⟩, Pv (i + 1), fun H' p' => ⟨xs.length - (i + 1), by omega, rfl, lt, p'⟩, fun x H' y => ?_⟩
    obtain ⟨eH, hx⟩ := y
    cases eH
    exact step i x H (hx xs q) p
  · have e : i = xs.length := by omega
    subst e
    exact .inl ⟨⟨xs, q, (Nat.le_refl _ : xs.length ≤ xs.length)⟩, fin H p⟩
end
/-- a value laid under a letter -/
def setD : List (Str × Int) → Str → Int → List (Str × Int)
  | [], k, n => [(k, n)]
  | p :: l, k, n => if p.1 = k then (k, n) :: l else p :: setD l k n
def getD : List (Str × Int) → Str → Option Int
  | [], _ => none
  | p :: l, k => if p.1 = k then some p.2 else getD l k
theorem dV_val : ∀ (l : List (Str × Int)) (k : Str), valV (dV l) (Sum.inr k) = (getD l k).map V.int
  | [], k => rfl
  | p :: l, k => by
    show valV ((Sum.inr p.1, V.int p.2) :: dV l) (Sum.inr k) = _
    unfold getD
    by_cases e : p.1 = k
    · rw [valV_pos (by rw [e]), if_pos e]; rfl
    · rw [valV_neg (fun z => e (by injection z)), if_neg e]; exact dV_val l k
theorem setD_keys : ∀ {l : List (Str × Int)} {k : Str} {n : Int}, k ∈ l.map (·.1) → (setD l k n).map (·.1) = l.map (·.1)
  | [], k, n, h => nomatch h
  | p :: l, k, n, h => by
    unfold setD
    by_cases e : p.1 = k
    · rw [if_pos e, List.map_cons, List.map_cons, e]
    · rw [if_neg e, List.map_cons, List.map_cons, setD_keys ((List.mem_cons.mp h).resolve_left (Ne.symm e))]
theorem setD_new : ∀ {l : List (Str × Int)} {k : Str} {n : Int}, k ∉ l.map (·.1) → setD l k n = l ++ [(k, n)]
  | [], k, n, h => rfl
  | p :: l, k, n, h => by
    unfold setD
    rw [if_neg (fun e => h (by rw [List.map_cons, e]; exact List.mem_cons_self ..)), setD_new (l := l) (fun z => h (List.mem_cons_of_mem _ z))]
    rfl
theorem getD_setD : ∀ (l : List (Str × Int)) (k j : Str) (n : Int), getD (setD l k n) j = if k = j then some n else getD l j
  | [], k, j, n => rfl
  | p :: l, k, j, n => by
    unfold setD
    by_cases e : p.1 = k
    · rw [if_pos e]
      unfold getD
      by_cases f : k = j
      · rw [if_pos f, if_pos f]
      · rw [if_neg f, if_neg f, if_neg (by rw [e]; exact f)]
    · rw [if_neg e]
      unfold getD
      by_cases f : p.1 = j
      · rw [if_pos f, if_pos f, if_neg (by rw [← f]; exact Ne.symm e)]
      · rw [if_neg f, if_neg f, getD_setD l k j n]
theorem dV_any (l : List (Str × Int)) (k : Str) : ((dV l).any fun kv => decide (kv.1 = (Sum.inr k : Key))) = decide (k ∈ l.map (·.1)) := by
  unfold dV
  rw [List.any_map]
  induction l with
  | nil => rfl
  | cons p l ih =>
    rw [List.any_cons, ih]
    show (decide ((Sum.inr p.1 : Key) = Sum.inr k) || _) = _
    by_cases e : p.1 = k
    · subst e; simp
    · have : ¬ ((Sum.inr p.1 : Key) = Sum.inr k) := fun z => e (by injection z)
      rw [decide_eq_false this]
      simp [Ne.symm e]
theorem dV_put (l : List (Str × Int)) (k : Str) (n : Int) (nd : (l.map (·.1)).Nodup) : putK (dV l) (Sum.inr k) (.int n) = dV (setD l k n) := by
  unfold putK
  rw [dV_any]
  by_cases h : k ∈ l.map (·.1)
  · rw [if_pos (decide_eq_true h)]
    induction l with
    | nil => cases h
    | cons p l ih =>
      unfold setD
      by_cases e : p.1 = k
      · rw [if_pos e]
        have nk : ∀ q ∈ l, q.1 ≠ k := fun q hq z => (List.pairwise_cons.mp nd).1 q.1 (List.mem_map.mpr ⟨q, hq, rfl⟩) (e.trans z.symm)
        subst e
        show _ :: _ = _ :: _
        congr 1
        · simp
        · clear ih h nd
          induction l with
          | nil => rfl
          | cons q l ih2 =>
            have i2 := ih2 fun q hq => nk q (List.mem_cons_of_mem _ hq)
            have n2 : ¬ ((Sum.inr q.1 : Key) = Sum.inr p.1) := fun z => nk q (List.mem_cons_self ..) (by injection z)
            show _ :: _ = _ :: _
            congr 1
            exact if_neg n2
      · rw [if_neg e]
        have n2 : ¬ ((Sum.inr p.1 : Key) = Sum.inr k) := fun z => e (by injection z)
        show _ :: _ = _ :: _
        congr 1
        · exact if_neg n2
        · exact ih (List.pairwise_cons.mp nd).2 ((List.mem_cons.mp h).resolve_left (Ne.symm e))
  · rw [if_neg (by simpa using h), setD_new h]
    unfold dV
    rw [List.map_append]
    rfl
theorem r_dc {wi : TI} {g : TG} {tt : TT} {tk tv : TE} {vs : List Nat} {σ : L2.St} {H : Hp} {Q : VK} (q : wi σ H fun J H1 => ∀ D, H1 D = none → ∃ W : Nat → Nat → Hp → Prop, (∃ m, W 0 m (upd H1 D (.dK []))) ∧ ∀ i m H, W i m H →
  (J.stop i H ∧ Q (.ref D) H) ∨ (J.go i H ∧ ∃ Nx : Hp → Prop, (∀ H', Nx H' → ∃ m', m' < m ∧ W (i + 1) m' H') ∧ ∀ x H', J.yld i H x H' → g x (wipe σ vs) H' fun σ2 H2 => wipe σ2 vs = wipe σ vs ∧ tt σ2 H2 fun b H3 =>
    if b = true then tk σ2 H3 fun y H4 => tv σ2 H4 fun z H5 => ∃ kvs k, y = kV k ∧ H5 D = some (.dK kvs) ∧ kvs.length < sizeLine ∧ Nx (upd H5 D (.dK (putK kvs k z))) else Nx H3)) : tDc wi g tt tk tv vs σ H Q := q
/-- values of 2 for all letters -/
def allTwo (l : List Str) : List (Str × Int) := l.map fun k => (k, 2)
/-- the first gap -/
def holeGo (szs : List Str) : List Str → List Sd → Option (List (Str × Int) × Int)
  | _, [] => none
  | due, r :: fs => if r.2.2 = due then holeGo szs (srt (r.2.1 ++ r.2.2)) fs else some (allTwo szs, prodF (fun _ => 2) due)
def holeM (szs : List Str) (fs : List Sd) : Option (List (Str × Int) × Int) := holeGo szs [] fs
section
variable {σ : L2.St} {H : Hp} {D : Ends} {tas : TA} {i j l : Nat}
theorem r_par3 (q : tas σ H fun vs H1 => ∃ u v w, vs = [u, v, w] ∧ D.nx (((σ.set i (some u)).set j (some v)).set l (some w)) H1) : tPar3 i j l tas D σ H := q
theorem r_three {u v w : V} {P : V → V → V → Prop} (q : P u v w) : ∃ x y z, [u, v, w] = [x, y, z] ∧ P x y z := ⟨u, v, w, rfl, q⟩
end
end CP

set_option Elab.async false
set_option linter.all false
set_option maxRecDepth 100000
set_option maxHeartbeats 4000000
set_option autoImplicit false
/-! two cells with the same place -/
namespace CP
open L2 PySem PyProof.Rows
/-- the value of a letter -/
def atD (v : List (Str × Int)) (k : Str) : Int := (getD v k).getD 0
/-- the letter's value is doubled until the size is greater -/
def grow (one second : List Str) (name : Str) : Nat → List (Str × Int) → List (Str × Int)
  | 0, v => v
  | n + 1, v => if prodF (atD v) one ≤ prodF (atD v) second then grow one second name n (setD v name (atD v name * 2)) else v
def setAll (v : List (Str × Int)) (ks : List Str) (n : Int) : List (Str × Int) := ks.foldl (fun v k => setD v k n) v
def clash2 (rows : List Sd) (vals : List (Str × Int)) (one other : Sd) (second : List Str) : Option (List (Str × Int) × List Int × List Int) :=
  match moreM one.2.1 second with
  | none => none
  | some name => some (grow one.2.1 second name 100 vals, loneM rows one.1 (prodF (atD (grow one.2.1 second name 100 vals)) second), loneM rows other.1 1)
def clashM (rows : List Sd) : Option (List (Str × Int) × List Int × List Int) :=
  match orderM rows with
  | .inl _ => none
  | .inr (one, other) =>
    match restOf one.2.2 (sharedM one.2.2 other.2.2), restOf other.2.2 (sharedM one.2.2 other.2.2) with
    | some first, some second =>
      if first ≠ [] then
        if second ≠ [] then some (setAll (setAll (allTwo (sizesM rows)) first (2 ^ second.length)) second (2 ^ first.length), loneM rows one.1 1, loneM rows other.1 1)
        else clash2 rows (allTwo (sizesM rows)) other one first
      else clash2 rows (allTwo (sizesM rows)) one other second
    | _, _ => none
theorem foldl_mul {f : Str → Int} : ∀ {l : List Str} {a : Int}, l.foldl (fun a k => a * f k) a = a * prodF f l
  | [], a => by unfold prodF; rw [List.foldl_nil, List.foldl_nil, Int.mul_one]
  | k :: l, a => by
    unfold prodF
    rw [List.foldl_cons, List.foldl_cons, foldl_mul, foldl_mul, Int.one_mul, Int.mul_assoc]
theorem prodF_cons {f : Str → Int} {k : Str} {l : List Str} : prodF f (k :: l) = f k * prodF f l := by
  show (k :: l).foldl (fun a k => a * f k) 1 = _
  rw [List.foldl_cons, foldl_mul, Int.one_mul]
/-- behind i doublings -/
def Grown (szs : List Str) (name : Str) (i : Nat) (v : List (Str × Int)) : Prop := v.map (·.1) = szs ∧ ∀ k ∈ szs, getD v k = some (if k = name then 2 ^ (i + 1) else 2)
theorem Grown.succ {szs : List Str} {name : Str} {i : Nat} {v : List (Str × Int)} (h : Grown szs name i v) (hn : name ∈ szs) : Grown szs name (i + 1) (setD v name (atD v name * 2)) := by
  refine ⟨by rw [setD_keys (by rw [h.1]; exact hn)]; exact h.1, fun k hk => ?_⟩
  rw [getD_setD]
  by_cases e : name = k
  · subst e
    rw [if_pos rfl, if_pos rfl]
    unfold atD
    rw [h.2 name hn, if_pos rfl]
    show some ((2 : Int) ^ (i + 1) * 2) = _
    rw [← Int.pow_succ]
  · rw [if_neg e, h.2 k hk, if_neg (Ne.symm e), if_neg (Ne.symm e)]
theorem Grown.at_ {szs : List Str} {name : Str} {i : Nat} {v : List (Str × Int)} (h : Grown szs name i v) {k : Str} (hk : k ∈ szs) : atD v k = 2 ^ (if k = name then i + 1 else 1) := by
  unfold atD
  rw [h.2 k hk]
  split <;> rfl
theorem Grown.prod {szs : List Str} {name : Str} {i : Nat} {v : List (Str × Int)} (h : Grown szs name i v) : ∀ {l : List Str}, (∀ k ∈ l, k ∈ szs) → prodF (atD v) l = 2 ^ (l.length + i * l.count name)
  | [], _ => rfl
  | k :: l, hl => by
    rw [prodF_cons, h.prod fun x hx => hl x (List.mem_cons_of_mem _ hx), h.at_ (hl k (List.mem_cons_self ..)), ← Int.pow_add, List.length_cons, List.count_cons]
    congr 1
    by_cases e : k = name
    · subst e
      rw [if_pos rfl]
      simp only [beq_self_eq_true, if_true, Nat.mul_add]
      omega
    · rw [if_neg e]
      have e1 : (k == name) = false := beq_eq_false_iff_ne.mpr e
      simp only [e1, Bool.false_eq_true, if_false, Nat.add_zero]
      omega
theorem two_lt {a b : Nat} (h : a < b) : (2 : Int) ^ a < 2 ^ b := by
  have := Nat.pow_lt_pow_right (a := 2) (by decide) h
  exact_mod_cast this
theorem two_400 {a : Nat} (h : a ≤ 200) : (2 : Int) ^ a < 2 ^ 400 := two_lt (by omega)
theorem Grown.val {szs : List Str} {name k : Str} {i : Nat} {v : List (Str × Int)} (h : Grown szs name i v) (hk : k ∈ szs) (hi : i ≤ 13) : valV (dV v) (Sum.inr k) = some (.int (atD v k)) ∧ 0 ≤ atD v k ∧ atD v k < 2 ^ 400 := by
  refine ⟨?_, ?_, ?_⟩
  · rw [dV_val, h.2 k hk]
    unfold atD
    rw [h.2 k hk]
    rfl
  · rw [h.at_ hk]
    exact Int.le_of_lt (Int.pow_pos (by decide))
  · rw [h.at_ hk]
    exact two_400 (by split <;> omega)
theorem Grown.low {szs : List Str} {name : Str} {i : Nat} {v : List (Str × Int)} (h : Grown szs name i v) {l : List Str} (hl : ∀ k ∈ l, k ∈ szs) (ll : l.length ≤ 12) (hi : i ≤ 13) (j : Nat) : prodF (atD v) (l.take j) < 2 ^ 400 := by
  rw [h.prod fun k hk => hl k (List.mem_of_mem_take hk)]
  refine two_400 ?_
  have c : (l.take j).count name ≤ (l.take j).length := List.count_le_length
  have t : (l.take j).length ≤ 12 := by rw [List.length_take]; omega
  have : i * (l.take j).count name ≤ 13 * 12 := Nat.mul_le_mul hi (by omega)
  omega
/-- the cell at a place, side by side from the last one -/
def foundGo (f : Str → Int) : List Sd → List (Str × Int) × Int → List (Str × Int) × Int
  | [], a => a
  | r :: fs, a => foundGo f fs (setD a.1 r.1 (min (a.2 / prodF f r.2.2) (prodF f r.2.1 - 1)), a.2 - min (a.2 / prodF f r.2.2) (prodF f r.2.1 - 1) * prodF f r.2.2)
def foundM (rows fs : List Sd) (f : Str → Int) (n : Int) : Option (List Int) :=
  if (foundGo f fs.reverse ([], n)).2 = 0 then some (rows.map fun r => (getD (foundGo f fs.reverse ([], n)).1 r.1).getD 0) else none
/-! what is answered, as data -/
def OwnAt (rows : List Sd) (v : V) (H : Hp) : Prop := match orderM rows with
  | .inl fs => ∃ p, v = .ref p ∧ H p = some (.lst (strL (fs.map (·.1))))
  | .inr _ => v = .non
def ClashAt (rows : List Sd) (v : V) (H : Hp) : Prop := match clashM rows with
  | some (kv, c1, c2) => (kv.map (·.1)).Nodup ∧ ∃ t d x y, v = .ref t ∧ H t = some (.tup [.ref d, .ref x, .ref y]) ∧ H d = some (.dK (dV kv)) ∧ H x = some (.lst (c1.map V.int)) ∧ H y = some (.lst (c2.map V.int))
  | none => v = .non
def HoleAt (rows fs : List Sd) (v : V) (H : Hp) : Prop := match holeM (sizesM rows) fs with
  | some (kv, n) => (kv.map (·.1)).Nodup ∧ ∃ t d, v = .ref t ∧ H t = some (.tup [.ref d, .int n]) ∧ H d = some (.dK (dV kv))
  | none => v = .non
def CellAt (rows fs : List Sd) (f : Str → Int) (n : Int) (v : V) (H : Hp) : Prop := match foundM rows fs f n with
  | some c => ∃ p, v = .ref p ∧ H p = some (.lst (c.map V.int))
  | none => v = .non
end CP

set_option Elab.async false
set_option linter.all false
set_option maxRecDepth 100000
set_option maxHeartbeats 4000000
set_option autoImplicit false
/-! dicts that are walked: locked for that long -/
namespace CP
open L2 PySem PyProof.Rows
section
variable {K : PySem.W.Frag} {σ : L2.St} {H : Hp} {Q : VK} {d : Addr} {kvs : List (Key × V)} {t td : TE} {od : Obj} {z : Str} {v : V}
theorem r_lockE (h : H d = some (.dK kvs)) (q : ∀ od H1, H1 d = some (.frz od (.dK kvs)) → (∀ b o, b ≠ d → H b = some o → H1 b = some o) → (∀ H', Same H1 H' → Same H (upd H' d (.dK kvs))) → t σ H1 fun v H' => H' d = some (.frz od (.dK kvs)) ∧ Q v (upd H' d (.dK kvs))) : tLockE t σ H Q :=
  ⟨d, _, h, by trivial, fun od => q od _ upd_same (fun b o ne e => by rw [upd_ne ne]; exact e) fun H' s b o e => by
    by_cases ne : b = d
    · subst ne
      rw [h] at e
      rw [upd_same, e]
    · rw [upd_ne ne]
      exact s b o (by rw [upd_ne ne]; exact e)⟩
theorem r_iKeys {R : It → Hp → Prop} (q : td σ H fun x H1 => ∃ d o, x = .ref d ∧ ((∃ kvs, H1 d = some (.frz o (.dK kvs)) ∧ R (Itk d o kvs) H1) ∨ ∃ kvs, H1 d = some (.frz o (.dT kvs)) ∧ R (Itkt d o kvs) H1)) : iKeys td σ H R := q
theorem r_dgetF {P : V → Prop} (h : H d = some (.frz od (.dK kvs))) (e : valV kvs (Sum.inr z) = some v) (q : P v) : ∃ a v, V.ref d = .ref a ∧ DGet H a (.str z) (some v) ∧ P v :=
  ⟨d, v, rfl, .inl ⟨kvs, Sum.inr z, .inr ⟨od, h⟩, rfl, e.symm⟩, q⟩
end
section
variable {β : Type} {a : Addr} {od : Obj} {kvs : List (Key × V)} {g : TG} {tt : TT} {te : TE} {vs : List Nat} {σ : L2.St} {H1 : Hp} {D : Addr} {Qd : Hp → Prop}
theorem lc_keys (R : Hp → V → β → Prop) (ys : List (Option β)) (hD : H1 D = none) (ha : H1 a = some (.frz od (.dK kvs))) (hl : kvs.length = ys.length) (hz : ys.length < sizeLine) (mono : ∀ H H' v b, Same H H' → R H v b → R H' v b)
    (hs : ∀ (i : Nat) (k : Key) (v : V) (o : Option β) (H : Hp), kvs[i]? = some (k, v) → ys[i]? = some o → Same H1 H → (∃ acc, H D = some (.lst acc)) → Turn g tt te vs σ R D H (kV k) o)
    (hd : ∀ H acc, Same H1 H → H D = some (.lst acc) → Paired (R H) acc (ys.filterMap id) → Qd H) :
    ∃ W : Nat → Nat → Hp → Prop, (∃ m, W 0 m (upd H1 D (.lst []))) ∧ ∀ i m H, W i m H →
      ((Itk a od kvs).stop i H ∧ Qd H) ∨ ((Itk a od kvs).go i H ∧ ∃ Nx : Hp → Prop, (∀ H', Nx H' → ∃ m', m' < m ∧ W (i + 1) m' H') ∧ ∀ x H', (Itk a od kvs).yld i H x H' → g x (wipe σ vs) H' fun σ2 H2 => wipe σ2 vs = wipe σ vs ∧ tt σ2 H2 fun b H3 =>
        if b = true then te σ2 H3 fun y H4 => ∃ acc, H4 D = some (.lst acc) ∧ acc.length < sizeLine ∧ Nx (upd H4 D (.lst (acc ++ [y]))) else Nx H3) := by
  refine ⟨fun i m H => m = ys.length - i ∧ i ≤ ys.length ∧ Acc R H1 D ys i H, ⟨ys.length, by simp, Nat.zero_le _, acc_zero hD⟩, ?_⟩
  rintro i m H ⟨rfl, hi, p⟩
  have q := CP.Same.to p.1 ha
  by_cases lt : i < ys.length
  · refine .inr ⟨⟨q, by omega⟩, Acc R H1 D ys (i + 1), fun H' p' => ⟨ys.length - (i + 1), by omega, rfl, lt, p'⟩, fun x H' y => ?_⟩
    obtain ⟨rfl, k, v, hk, rfl⟩ := y
    exact turn_of mono hD hz p (List.getElem?_eq_getElem lt) (hs i k v _ _ hk (List.getElem?_eq_getElem lt) p.1 (p.2.imp fun _ z => z.1))
  · have e : i = ys.length := by omega
    subst e
    obtain ⟨s, acc, e, pr⟩ := acc_end mono p
    exact .inl ⟨⟨q, by omega⟩, hd H acc s e pr⟩
theorem lc_keysN (hD : H1 D = none) (ha : H1 a = some (.frz od (.dK kvs))) (hz : kvs.length < sizeLine)
    (hs : ∀ (i : Nat) (k : Key) (v : V) (H : Hp), kvs[i]? = some (k, v) → Same H1 H → Turn (β := V) g tt te vs σ (fun _ x b => x = b) D H (kV k) none) (hd : ∀ H, Same H1 H → H D = some (.lst []) → Qd H) :
    ∃ W : Nat → Nat → Hp → Prop, (∃ m, W 0 m (upd H1 D (.lst []))) ∧ ∀ i m H, W i m H →
      ((Itk a od kvs).stop i H ∧ Qd H) ∨ ((Itk a od kvs).go i H ∧ ∃ Nx : Hp → Prop, (∀ H', Nx H' → ∃ m', m' < m ∧ W (i + 1) m' H') ∧ ∀ x H', (Itk a od kvs).yld i H x H' → g x (wipe σ vs) H' fun σ2 H2 => wipe σ2 vs = wipe σ vs ∧ tt σ2 H2 fun b H3 =>
        if b = true then te σ2 H3 fun y H4 => ∃ acc, H4 D = some (.lst acc) ∧ acc.length < sizeLine ∧ Nx (upd H4 D (.lst (acc ++ [y]))) else Nx H3) := by
  refine lc_keys (β := V) (fun _ x b => x = b) (kvs.map fun _ => none) hD ha (by rw [List.length_map]) (by rw [List.length_map]; exact hz) (fun _ _ _ _ _ z => z) (fun i k v o H hk ho s1 _ => ?_) fun H acc s1 hacc pp => ?_
  · have e : o = none := by
      rw [List.getElem?_map, hk] at ho
      exact (Option.some.inj ho).symm
    subst e
    exact hs i k v H hk s1
  · have e : acc = [] := by
      rw [pd_eq pp]
      clear pp hs hz ha
      induction kvs with
      | nil => rfl
      | cons _ xs ih => exact ih
    subst e
    exact hd H s1 hacc
end
section
variable {K : PySem.W.Frag} {σ : L2.St} {H : Hp} {Q : VK} {te : TE} {a : Addr} {xs : List V}
theorem r_revL (q : te σ H fun x H1 => ∃ a xs, x = .ref a ∧ SqL K H1 a xs ∧ ∀ p, H1 p = none → Q (.ref p) (upd H1 p (.lst xs.reverse))) : tRevL K te σ H Q := q
end
theorem getD_mem : ∀ {l : List (Str × Int)} {p : Str × Int}, (l.map (·.1)).Nodup → p ∈ l → getD l p.1 = some p.2
  | a :: l, p, nd, h => by
    unfold getD
    rcases List.mem_cons.mp h with e | h
    · subst e; rw [if_pos rfl]
    · have ne : a.1 ≠ p.1 := fun e => (List.pairwise_cons.mp nd).1 p.1 (List.mem_map.mpr ⟨p, h, rfl⟩) e
      rw [if_neg ne]
      exact getD_mem (List.pairwise_cons.mp nd).2 h
theorem dV_get {l : List (Str × Int)} {i : Nat} {k : Key} {v : V} (h : (dV l)[i]? = some (k, v)) : ∃ p, p ∈ l ∧ k = Sum.inr p.1 ∧ v = .int p.2 := by
  unfold dV at h
  rw [List.getElem?_map] at h
  cases e : l[i]? with
  | none => rw [e] at h; cases h
  | some p =>
    rw [e] at h
    cases h
    exact ⟨p, List.mem_of_getElem? e, rfl, rfl⟩
end CP

set_option Elab.async false
set_option linter.all false
set_option maxRecDepth 100000
set_option maxHeartbeats 4000000
set_option autoImplicit false
/-! heaps in which one object or two may change; what the law draws -/
namespace CP
open L2 PySem PyProof.Rows
/-- new at q, then changed at q -/
theorem SB.fresh {p q : Addr} {H H1 H2 : Hp} (s : SB p H H1) (hq : H q = none) (t : SB q H1 H2) : SB p H H2 := fun b o ne e => t b o (fun z => by rw [z, hq] at e; cases e) (s b o ne e)
/-- the letters that the law uses for sizes, for names -/
def sizeW : List Str := ["m", "n", "n", "mn", "p", "abc", "height", "nm"]
def nameW : List Str := ["r", "c", "z", "kk", "a", "page", "columnes", "abcdefghij"]
theorem sizeW_let : ∀ x ∈ sizeW, letB x = true := by decide +kernel
theorem nameW_let : ∀ x ∈ nameW, letB x = true := by decide +kernel
theorem sizeW_out : ∀ x ∈ sizeW, x ∉ nameW := by decide +kernel
/-- rows as the law draws them -/
structure Drawn (rows : List Sd) : Prop where
  name : ∀ r ∈ rows, r.1 ∈ nameW
  size : ∀ r ∈ rows, (∀ w ∈ r.2.1, w ∈ sizeW) ∧ r.2.1.length ≤ 3
  step : ∀ r ∈ rows, (∀ w ∈ r.2.2, w ∈ sizeW) ∧ r.2.2.length ≤ 6
theorem Drawn.rows {rows : List Sd} (h : Drawn rows) (ne : rows ≠ []) (nd : (rows.map (·.1)).Nodup) (few : rows.length ≤ 20) : Rows rows := by
  refine ⟨ne, few, fun r hr => nameW_let _ (h.name r hr), fun r hr => ⟨fun x hx => sizeW_let x ((h.size r hr).1 x hx), by have := (h.size r hr).2; omega⟩, fun r hr => ⟨fun x hx => sizeW_let x ((h.step r hr).1 x hx), by have := (h.step r hr).2; omega⟩, nd, fun r hr x hx m => ?_⟩
  obtain ⟨r2, h2, e⟩ := List.mem_map.mp m
  have xs : x ∈ sizeW := by
    rcases List.mem_append.mp hx with z | z
    · exact (h.size r hr).1 x z
    · exact (h.step r hr).1 x z
  exact sizeW_out x xs (by rw [← e]; exact h.name r2 h2)
/-- all but two stand -/
def SB2 (p q : Addr) (H H' : Hp) : Prop := ∀ b o, b ≠ p → b ≠ q → H b = some o → H' b = some o
theorem SB2.refl {p q : Addr} {H : Hp} : SB2 p q H H := fun _ _ _ _ e => e
theorem SB2.p {p q : Addr} {H H1 H2 : Hp} (s : SB2 p q H H1) (t : SB p H1 H2) : SB2 p q H H2 := fun b o n1 n2 e => t b o n1 (s b o n1 n2 e)
theorem SB2.q {p q : Addr} {H H1 H2 : Hp} (s : SB2 p q H H1) (t : SB q H1 H2) : SB2 p q H H2 := fun b o n1 n2 e => t b o n2 (s b o n1 n2 e)
section
variable {K : PySem.W.Frag} {a : Addr} {xs : List V} {g : TG} {tb : TS} {D : Ends} {σ : L2.St} {H : Hp} {ta : TA}
theorem r_iEnum {R : It → Hp → Prop} (q : ta σ H fun vs H1 => ∃ a xs, vs = [.ref a] ∧ SqL K H1 a xs ∧ R (Ite K a) H1) : iEnum K ta σ H R := q
end
/-- the step of the one times its size divides the step of the other -/
def Fits (r s : Sd) : Prop := ∀ w, (r.2.1 ++ r.2.2).count w ≤ s.2.2.count w
def Comp (r s : Sd) : Prop := Fits r s ∨ Fits s r
theorem r_makeK {C : Addr} {n m : Nat} {sp : Sp} {gV : List V → List V → List V} {E : XK} {t tk : TA} {σ : L2.St} {H : Hp} {Q : VK} (q : t σ H fun vs H1 => tk σ H1 fun zs H2 => vs.length = n ∧ zs.length = m ∧ ∀ x dx, H2 x = none → H2 dx = none → dx ≠ x →
  sp (gV (.ref x :: vs) zs) (upd (upd H2 dx (.own x)) x (.ins C dx [])) (fun v H3 => v = .non ∧ Q (.ref x) H3) E) : tMakeK C n m sp gV E t tk σ H Q := q
end CP
namespace CP
open L2 PySem PyProof.Rows
theorem OwnAt.mono {rows : List Sd} {v : V} {H H' : Hp} (h : OwnAt rows v H) (s : Same H H') : OwnAt rows v H' := by
  unfold OwnAt at *
  split at h
  · rename_i fs e
    obtain ⟨p, rfl, hp⟩ := h
    exact ⟨p, rfl, CP.Same.to s hp⟩
  · rename_i z e
    exact h
theorem ClashAt.mono {rows : List Sd} {v : V} {H H' : Hp} (h : ClashAt rows v H) (s : Same H H') : ClashAt rows v H' := by
  unfold ClashAt at *
  split at h
  · rename_i kv c1 c2 e
    obtain ⟨nd, t, d, x, y, rfl, h1, h2, h3, h4⟩ := h
    exact ⟨nd, t, d, x, y, rfl, CP.Same.to s h1, CP.Same.to s h2, CP.Same.to s h3, CP.Same.to s h4⟩
  · rename_i e
    exact h
theorem HoleAt.mono {rows fs : List Sd} {v : V} {H H' : Hp} (h : HoleAt rows fs v H) (s : Same H H') : HoleAt rows fs v H' := by
  unfold HoleAt at *
  split at h
  · rename_i kv n e
    obtain ⟨nd, t, d, rfl, h1, h2⟩ := h
    exact ⟨nd, t, d, rfl, CP.Same.to s h1, CP.Same.to s h2⟩
  · rename_i e
    exact h
theorem CellAt.mono {rows fs : List Sd} {f : Str → Int} {n : Int} {v : V} {H H' : Hp} (h : CellAt rows fs f n v H) (s : Same H H') : CellAt rows fs f n v H' := by
  unfold CellAt at *
  split at h
  · rename_i c e
    obtain ⟨p, rfl, h1⟩ := h
    exact ⟨p, rfl, CP.Same.to s h1⟩
  · rename_i e
    exact h
section
variable {K : PySem.W.Frag} {H : Hp} {Q : VK} {v v' : V} {rows fs : List Sd}
end
end CP

set_option Elab.async false
set_option linter.all false
set_option maxRecDepth 100000
set_option maxHeartbeats 4000000
set_option autoImplicit false
/-! zip of a tuple and a list -/
namespace CP
open PySem L2 PyProof.Rows
/-- what hands out items one at a time: the iterator at b over l -/
structure Feed (b l : Addr) (items : Array Value) (At : Heap → Nat → Prop) (Src : Heap → Prop) : Prop where
  goes : ∀ {h h' : Heap} {i : Nat}, At h i → (∀ o, h.get? b = some o → h'.get? b = some o) → At h' i
  stays : ∀ {h h' : Heap}, Src h → (∀ o, h.get? l = some o → h'.get? l = some o) → Src h'
  there : ∀ {h : Heap} {i : Nat}, At h i → b < h.objs.size
  next : ∀ {P : Program} {w : World} {A : Around} {E : Value → Shared → Prop} {s : Shared} {i : Nat} {x : Value} {Q : Value → Shared → Prop}, At s.heap i → Src s.heap → items[i]? = some x →
    (∀ h', At h' (i + 1) → Heap.SameBut b s.heap h' → Q x { s with heap := h' }) → wpAny (model P w) A (Builtin.SmallTypes.nextOf (.ref b)) Q E s
  last : ∀ {P : Program} {w : World} {A : Around} {E : Value → Shared → Prop} {s : Shared} {i : Nat} {Q : Value → Shared → Prop}, A.handled = none → At s.heap i → Src s.heap → items[i]? = none →
    (∀ h' e, Heap.ExtBut b s.heap h' → (∃ o, h'.get? e = some o ∧ o.cls = .type "StopIteration") → E (.ref e) { s with heap := h' }) → wpAny (model P w) A (Builtin.SmallTypes.nextOf (.ref b)) Q E s
theorem feedL (b l : Addr) (items : Array Value) : Feed b l items (fun h i => h.IsListIter b l i) (fun h => h.IsList l items) where
  goes := fun x k => x.at k
  stays := fun x k => x.at k
  there := fun x => by obtain ⟨_, e, _⟩ := x; exact Heap.lt_size e
  next := fun a b c d => wpAny_nextOf_list_item a b c d
  last := fun h a b c d => wpAny_nextOf_list_end h a b c d
theorem feedT (b l : Addr) (items : Array Value) : Feed b l items (fun h i => h.IsTupleIter b l i) (fun h => h.IsTuple l items) where
  goes := fun x k => x.at k
  stays := fun x k => x.at k
  there := fun x => by obtain ⟨_, e, _⟩ := x; exact Heap.lt_size e
  next := fun a b c d => RZ.nextOf_tuple_item a b c d
  last := fun h a b c d => RZ.nextOf_tuple_end h a b c d
section
variable {P : Program} {w : World} {A : Around} {E : Value → Shared → Prop} {s : Shared} {zz ti to b1 b2 l1 l2 : Addr} {xs ys : Array Value} {A1 A2 : Heap → Nat → Prop} {S1 S2 : Heap → Prop}
theorem zip_turn {i j : Nat} {x y u v : Value} {Q : Value → Shared → Prop} (f1 : Feed b1 l1 xs A1 S1) (f2 : Feed b2 l2 ys A2 S2) (D : ZipApart zz ti to b1 b2 l1 l2)
    (z0 : IsZip s.heap zz ti to .none) (p0 : IsPair s.heap ti (.ref b1) (.ref b2)) (q0 : IsPair s.heap to u v) (m1 : A1 s.heap i) (m2 : A2 s.heap j) (c1 : S1 s.heap) (c2 : S2 s.heap) (ex : xs[i]? = some x) (ey : ys[j]? = some y)
    (out : ∀ g, IsZip g zz ti to (rawInt s.heap.objs.size) → IsPair g to x y → A1 g (i + 1) → A2 g (j + 1) → IsPair g s.heap.objs.size x y → g.objs.size = s.heap.objs.size + 1 →
      (∀ c o, c ≠ zz → c ≠ to → c ≠ b1 → c ≠ b2 → s.heap.get? c = some o → g.get? c = some o) → Q (.ref s.heap.objs.size) { s with heap := g }) :
    wpAny (model P w) A (Builtin.«zip.__next__» ⟨[.ref zz], []⟩) (fun r t => ∃ v, r = .done (.ret v) ∧ Q v t) E s := by
  show wpAny _ _ (field (.ref zz) 2 >>= _) _ _ _
  refine wpAny_bind (wpAny_field z0 rfl (x := .bool false) rfl ?_)
  show wpAny _ _ (field (.ref zz) 3 >>= _) _ _ _
  refine wpAny_bind (wpAny_field z0 rfl (x := .ref ti) rfl (wpAny_bind (wpAny_seqItems p0 rfl ?_)))
  show wpAny _ _ (Builtin.SmallTypes.ownedTupleIsFree (.ref zz) >>= _) _ _ _
  refine wpAny_bind ?_
  unfold Builtin.SmallTypes.ownedTupleIsFree
  refine wpAny_bind (wpAny_field z0 rfl (x := .none) rfl (wpAny_pure ?_))
  simp only [if_true]
  refine wpAny_bind (wpAny_rule (wpAny_bind (wpAny_field z0 rfl (x := .ref to) rfl (wpAny_bind (wpAny_setField_rec z0 (by simp) fun g1 z1 k1 => ?_)))))
  replace z1 : IsZip g1 zz ti to .ellipsis := z1
  refine wpAny_bind ?_
  simp only [List.zipIdx_cons, List.zipIdx_nil, List.forIn_cons, List.forIn_nil]
  refine wpAny_bind (wpAny_bind (wpAny_onRaise ?_))
  show wpAny _ _ (Builtin.SmallTypes.nextOf (.ref b1) >>= _) _ _ _
  refine wpAny_bind (f1.next (f1.goes m1 fun o => k1.extBut _ o D.i1z) (f1.stays c1 fun o => k1.extBut _ o D.l1z) ex fun g2 n1 k2 => wpAny_pure ?_)
  have q2 : IsPair g2 to u v := k2.extBut _ _ D.TOi1 (k1.extBut _ _ D.TOz q0)
  refine wpAny_bind (wpAny_seqItems q2 rfl (wpAny_bind (wpAny_updateSeq_pair q2 fun g3 q3 k3 => ?_)))
  replace q3 : IsPair g3 to x v := q3
  refine wpAny_bind (wpAny_letGo (wpAny_pure (wpAny_bind (wpAny_bind (wpAny_onRaise ?_)))))
  show wpAny _ _ (Builtin.SmallTypes.nextOf (.ref b2) >>= _) _ _ _
  refine wpAny_bind (f2.next (f2.goes m2 fun o e => k3.extBut _ o D.TOi2.symm (k2.extBut _ o D.i12.symm (k1.extBut _ o D.i2z e))) (f2.stays c2 fun o e => k3.extBut _ o D.l2TO (k2.extBut _ o D.l2i1 (k1.extBut _ o D.l2z e))) ey fun g4 n2 k4 => wpAny_pure ?_)
  have q4 : IsPair g4 to x v := k4.extBut _ _ D.TOi2 q3
  refine wpAny_bind (wpAny_seqItems q4 rfl (wpAny_bind (wpAny_updateSeq_pair q4 fun g5 q5 k5 => ?_)))
  replace q5 : IsPair g5 to x y := q5
  refine wpAny_bind (wpAny_letGo (wpAny_pure (wpAny_pure (wpAny_bind (wpAny_seqItems q5 rfl (wpAny_bind (wpAny_newTuple ?_)))))))
  have size : g5.objs.size = s.heap.objs.size := by rw [k5.1, k4.1, k3.1, k2.1, k1.1]
  have z5 : IsZip g5 zz ti to .ellipsis := k5.extBut _ _ D.TOz.symm (k4.extBut _ _ D.i2z.symm (k3.extBut _ _ D.TOz.symm (k2.extBut _ _ D.i1z.symm z1)))
  have keep : ∀ c o, c ≠ zz → c ≠ to → c ≠ b1 → c ≠ b2 → s.heap.get? c = some o → g5.get? c = some o := fun c o a1 a2 a3 a4 e => k5.extBut _ _ a2 (k4.extBut _ _ a4 (k3.extBut _ _ a2 (k2.extBut _ _ a3 (k1.extBut _ _ a1 e))))
  have n1' : A1 g5 (i + 1) := f1.goes n1 fun o e => k5.extBut _ o D.TOi1.symm (k4.extBut _ o D.i12 (k3.extBut _ o D.TOi1.symm e))
  have n2' : A2 g5 (j + 1) := f2.goes n2 fun o e => k5.extBut _ o D.TOi2.symm e
  have lz : zz < g5.objs.size := Heap.lt_size z5
  show wpAny _ _ (Builtin.SmallTypes.ownedTupleHandOut (.ref zz) (.ref g5.objs.size) >>= _) _ _ _
  refine wpAny_bind ?_
  unfold Builtin.SmallTypes.ownedTupleHandOut
  have z6 : IsZip (g5.push { cls := .type "tuple", data := .seq #[x, y] }) zz ti to .ellipsis := Heap.get?_push_of_some _ z5
  refine wpAny_bind (wpAny_setField_rec z6 (by simp) fun g7 z7 k7 => ?_)
  replace z7 : IsZip g7 zz ti to (rawInt g5.objs.size) := z7
  refine wpAny_setField_rec z7 (by simp) fun g8 z8 k8 => ?_
  replace z8 : IsZip g8 zz ti to (rawInt g5.objs.size) := z8
  have up : ∀ c o, c ≠ zz → g5.get? c = some o → g8.get? c = some o := fun c o a1 e => k8.extBut _ _ a1 (k7.extBut _ _ a1 (Heap.get?_push_of_some _ e))
  have t8 : IsPair g8 g5.objs.size x y := k8.extBut _ _ (Nat.ne_of_gt lz) (k7.extBut _ _ (Nat.ne_of_gt lz) (Heap.get?_push_size _ rfl))
  have s8 : g8.objs.size = g5.objs.size + 1 := by rw [k8.1, k7.1, Heap.size_push]
  rw [size] at z8 t8 s8
  refine wpAny_pure ⟨_, rfl, ?_⟩
  show Q (.ref g5.objs.size) _
  rw [size]
  exact out g8 z8 (up _ _ D.TOz q5) (f1.goes n1' fun o e => up _ o D.i1z e) (f2.goes n2' fun o e => up _ o D.i2z e) t8 s8 fun c o a1 a2 a3 a4 e => up c o a1 (keep c o a1 a2 a3 a4 e)
theorem zip_stop {i j : Nat} {u v : Value} {Q : PySem.Fin → Shared → Prop} (f1 : Feed b1 l1 xs A1 S1) (f2 : Feed b2 l2 ys A2 S2) (calm : A.handled = none) (D : ZipApart zz ti to b1 b2 l1 l2)
    (z0 : IsZip s.heap zz ti to .none) (p0 : IsPair s.heap ti (.ref b1) (.ref b2)) (q0 : IsPair s.heap to u v) (m1 : A1 s.heap i) (m2 : A2 s.heap j) (c1 : S1 s.heap) (c2 : S2 s.heap) (no : xs[i]? = none ∨ ys[j]? = none)
    (out : ∀ g e, (∀ c o, c ≠ zz → c ≠ to → c ≠ b1 → c ≠ b2 → s.heap.get? c = some o → g.get? c = some o) → (∃ o, g.get? e = some o ∧ o.cls = .type "StopIteration") → E (.ref e) { s with heap := g }) :
    wpAny (model P w) A (Builtin.«zip.__next__» ⟨[.ref zz], []⟩) Q E s := by
  show wpAny _ _ (field (.ref zz) 2 >>= _) _ _ _
  refine wpAny_bind (wpAny_field z0 rfl (x := .bool false) rfl ?_)
  show wpAny _ _ (field (.ref zz) 3 >>= _) _ _ _
  refine wpAny_bind (wpAny_field z0 rfl (x := .ref ti) rfl (wpAny_bind (wpAny_seqItems p0 rfl ?_)))
  show wpAny _ _ (Builtin.SmallTypes.ownedTupleIsFree (.ref zz) >>= _) _ _ _
  refine wpAny_bind ?_
  unfold Builtin.SmallTypes.ownedTupleIsFree
  refine wpAny_bind (wpAny_field z0 rfl (x := .none) rfl (wpAny_pure ?_))
  simp only [if_true]
  refine wpAny_bind (wpAny_rule (wpAny_bind (wpAny_field z0 rfl (x := .ref to) rfl (wpAny_bind (wpAny_setField_rec z0 (by simp) fun g1 z1 k1 => ?_)))))
  replace z1 : IsZip g1 zz ti to .ellipsis := z1
  refine wpAny_bind ?_
  simp only [List.zipIdx_cons, List.zipIdx_nil, List.forIn_cons, List.forIn_nil]
  refine wpAny_bind (wpAny_bind (wpAny_onRaise ?_))
  show wpAny _ _ (Builtin.SmallTypes.nextOf (.ref b1) >>= _) _ _ _
  have m1' := f1.goes m1 fun o => k1.extBut _ o D.i1z
  have c1' := f1.stays c1 fun o => k1.extBut _ o D.l1z
  cases ex : xs[i]? with
  | none =>
    refine wpAny_bind (f1.last calm m1' c1' ex fun g2 e k2 he => ?_)
    obtain ⟨oe, e1, e2⟩ := he
    have z2 : IsZip g2 zz ti to .ellipsis := k2 _ _ D.i1z.symm z1
    have ne : e ≠ zz := fun y => by subst y; rw [z2] at e1; cases e1; simp at e2
    refine wpAny_setField_rec z2 (by simp) fun g3 _ k3 => out g3 e (fun c o a1 _ a3 _ y => k3.extBut _ _ a1 (k2 _ _ a3 (k1.extBut _ _ a1 y))) ⟨oe, k3.extBut _ _ ne e1, e2⟩
  | some x =>
    have ey : ys[j]? = none := no.resolve_left (by rw [ex]; simp)
    refine wpAny_bind (f1.next m1' c1' ex fun g2 n1 k2 => wpAny_pure ?_)
    have q2 : IsPair g2 to u v := k2.extBut _ _ D.TOi1 (k1.extBut _ _ D.TOz q0)
    refine wpAny_bind (wpAny_seqItems q2 rfl (wpAny_bind (wpAny_updateSeq_pair q2 fun g3 q3 k3 => ?_)))
    refine wpAny_bind (wpAny_letGo (wpAny_pure (wpAny_bind (wpAny_bind (wpAny_onRaise ?_)))))
    show wpAny _ _ (Builtin.SmallTypes.nextOf (.ref b2) >>= _) _ _ _
    refine wpAny_bind (f2.last calm (f2.goes m2 fun o e => k3.extBut _ o D.TOi2.symm (k2.extBut _ o D.i12.symm (k1.extBut _ o D.i2z e))) (f2.stays c2 fun o e => k3.extBut _ o D.l2TO (k2.extBut _ o D.l2i1 (k1.extBut _ o D.l2z e))) ey fun g4 e k4 he => ?_)
    obtain ⟨oe, e1, e2⟩ := he
    have z4 : IsZip g4 zz ti to .ellipsis := k4 _ _ D.i2z.symm (k3.extBut _ _ D.TOz.symm (k2.extBut _ _ D.i1z.symm z1))
    have ne : e ≠ zz := fun y => by subst y; rw [z4] at e1; cases e1; simp at e2
    refine wpAny_setField_rec z4 (by simp) fun g5 _ k5 => out g5 e (fun c o a1 a2 a3 a4 y => k5.extBut _ _ a1 (k4 _ _ a4 (k3.extBut _ _ a2 (k2.extBut _ _ a3 (k1.extBut _ _ a1 y))))) ⟨oe, k5.extBut _ _ ne e1, e2⟩
theorem zip_next {i j : Nat} {x y u v : Value} {Q : Option Value → Shared → Prop} (f1 : Feed b1 l1 xs A1 S1) (f2 : Feed b2 l2 ys A2 S2) (D : ZipApart zz ti to b1 b2 l1 l2)
    (z0 : IsZip s.heap zz ti to .none) (p0 : IsPair s.heap ti (.ref b1) (.ref b2)) (q0 : IsPair s.heap to u v) (m1 : A1 s.heap i) (m2 : A2 s.heap j) (c1 : S1 s.heap) (c2 : S2 s.heap) (ex : xs[i]? = some x) (ey : ys[j]? = some y)
    (out : ∀ g, IsZip g zz ti to (rawInt s.heap.objs.size) → IsPair g to x y → A1 g (i + 1) → A2 g (j + 1) → IsPair g s.heap.objs.size x y → g.objs.size = s.heap.objs.size + 1 →
      (∀ c o, c ≠ zz → c ≠ to → c ≠ b1 → c ≠ b2 → s.heap.get? c = some o → g.get? c = some o) → Q (some (.ref s.heap.objs.size)) { s with heap := g }) :
    wpAny (model P w) A (pyNext (.ref zz)) Q E s := by
  have ty : s.TypeIs (.ref zz) "zip" := ⟨_, z0, rfl⟩
  unfold pyNext
  exact wpAny_bind (wpAny_attempt (wpAny_callSpecial?_slot (name := Str.ofString "__next__") ty F.slot_zip_next (wpAny_call_entry F.slot_zip_next ty F.entry_zip_next
    (zip_turn f1 f2 D z0 p0 q0 m1 m2 c1 c2 ex ey fun g a1 a2 a3 a4 a5 a6 a7 => wpAny_pure (out g a1 a2 a3 a4 a5 a6 a7)) (F.args_zip_next_1 _))))
theorem zip_over {i j : Nat} {u v : Value} {Q : Option Value → Shared → Prop} (f1 : Feed b1 l1 xs A1 S1) (f2 : Feed b2 l2 ys A2 S2) (calm : A.handled = none) (D : ZipApart zz ti to b1 b2 l1 l2)
    (z0 : IsZip s.heap zz ti to .none) (p0 : IsPair s.heap ti (.ref b1) (.ref b2)) (q0 : IsPair s.heap to u v) (m1 : A1 s.heap i) (m2 : A2 s.heap j) (c1 : S1 s.heap) (c2 : S2 s.heap) (no : xs[i]? = none ∨ ys[j]? = none)
    (out : ∀ g, (∀ c o, c ≠ zz → c ≠ to → c ≠ b1 → c ≠ b2 → s.heap.get? c = some o → g.get? c = some o) → Q none { s with heap := g }) : wpAny (model P w) A (pyNext (.ref zz)) Q E s := by
  have ty : s.TypeIs (.ref zz) "zip" := ⟨_, z0, rfl⟩
  unfold pyNext
  refine wpAny_bind (wpAny_attempt (wpAny_callSpecial?_slot (name := Str.ofString "__next__") ty F.slot_zip_next (wpAny_call_entry F.slot_zip_next ty F.entry_zip_next
    (zip_stop f1 f2 calm D z0 p0 q0 m1 m2 c1 c2 no fun g e k he => ?_) (F.args_zip_next_1 _))))
  obtain ⟨o, e1, e2⟩ := he
  exact wpAny_bind (wpAny_isInstance (T := "StopIteration") (b := true) ⟨o, e1, e2⟩ isSubtype_stop (wpAny_pure (out _ k)))
end
end CP

set_option Elab.async false
set_option linter.all false
set_option maxRecDepth 100000
set_option maxHeartbeats 4000000
set_option autoImplicit false
/-! zip of a tuple and a list: the call, the loop, the comprehension -/
namespace CP
open PySem PySem.Spec PyProof.Rows L2
/-- two sequences side by side, the items in new pairs -/
def Itzz (A B : Hp → List V → Prop) : It :=
  ⟨fun i H => ∃ (xs ys : List V) (x y : V), A H xs ∧ B H ys ∧ xs[i]? = some x ∧ ys[i]? = some y,
    fun i H v H' => ∃ T x y, v = .ref T ∧ H T = none ∧ H' = upd H T (.tup [x, y]) ∧ (∀ xs, A H xs → xs[i]? = some x) ∧ ∀ ys, B H ys → ys[i]? = some y,
    fun i H => ∃ xs ys : List V, A H xs ∧ B H ys ∧ (xs.length ≤ i ∨ ys.length ≤ i)⟩
abbrev ItzM (K : PySem.W.Frag) (a b : Addr) : It := Itzz (fun H => SqT K H a) (fun H => SqL K H b)
theorem turn_zipM {P : Program} {w : World} {K : PySem.W.Frag} {elts : List Expr} {kk : Nat} {tpos : Pos} {a b z TI TO i1 i2 : Addr} (D : ZipApart z TI TO i1 i2 a b) :
    L2.Turn P w K (.Tuple elts kk tpos) (ItzM K a b) [z, TI, TO, i1, i2] z (fun i h => IsZip h z TI TO .none ∧ IsPair h TI (.ref i1) (.ref i2) ∧ (∃ x y, IsPair h TO x y) ∧ h.IsTupleIter i1 a i ∧ h.IsListIter i2 b i) where
  mem := by simp
  obj := fun i h st c hc => by
    obtain ⟨hz, hTI, ⟨x, y, hTO⟩, ⟨o1, e1, _, d1⟩, ⟨o2, e2, _, d2⟩⟩ := st
    have e' : c = z ∨ c = TI ∨ c = TO ∨ c = i1 ∨ c = i2 := by simpa using hc
    rcases e' with q | q | q | q | q
    · rw [q]; exact ⟨_, hz, fun v q => nomatch q⟩
    · rw [q]; exact ⟨_, hTI, fun v q => nomatch q⟩
    · rw [q]; exact ⟨_, hTO, fun v q => nomatch q⟩
    · rw [q]; exact ⟨o1, e1, fun v q => by rw [d1] at q; cases q⟩
    · rw [q]; exact ⟨o2, e2, fun v q => by rw [d2] at q; cases q⟩
  keep := fun i h h' st k => by
    obtain ⟨hz, hTI, ⟨x, y, hTO⟩, h1, h2⟩ := st
    exact ⟨k z (by simp) _ hz, k TI (by simp) _ hTI, ⟨x, y, k TO (by simp) _ hTO⟩, h1.at fun o q => k i1 (by simp) o q, h2.at fun o q => k i2 (by simp) o q⟩
  item := by
    intro X hP hw hK hc i pins s σ H E I hf st hg
    subst hP hw hK
    obtain ⟨hz, hTI, ⟨x0, y0, hTO⟩, h1, h2⟩ := st
    obtain ⟨xs, ys, x, y, hqx, hqy, hx, hy⟩ := hg
    obtain ⟨its, rv, p, _⟩ := I.tuple hqx
    obtain ⟨its2, rv2, p2, _⟩ := I.list hqy
    obtain ⟨u, hu, ru⟩ := rv.get hx
    obtain ⟨u2, hu2, ru2⟩ := rv2.get hy
    have hzl : z < s.heap.objs.size := Heap.lt_size hz
    refine zip_next (feedT i1 a its.toArray) (feedL i2 b its2.toArray) D hz hTI hTO h1 h2 p p2.isList (x := u) (y := u2) (by simpa using hu) (by simpa using hu2) fun h' z' TO' h1' h2' hT hsz hk => ?_
    refine ⟨_, rfl, wpAny_letOwnedTupleGo_zip (s := { s with heap := h' }) z' fun h'' z'' sb => ?_⟩
    have hT2 : h''.get? s.heap.objs.size = some { cls := .type "tuple", data := .seq #[u, u2] } := (sb.2 _ (Nat.ne_of_gt hzl)).trans hT
    have new : ObjOk X.prog X.w (upd H s.heap.objs.size (.tup [x, y])) h'' s.heap.objs.size (.tup [x, y]) :=
      ⟨by show 2 ≤ sizeLine; decide, [u, u2], .cons ru (.cons ru2 .nil), ⟨_, hT2, rfl, _, rfl⟩⟩
    have I1 : Inv X pins σ (upd H s.heap.objs.size (.tup [x, y])) { s with heap := h'' } :=
      I.turnedNew (t' := s.toks) (ch := [z, TI, TO, i1, i2]) (fun c o hb q => (sb.2 c (fun q' => hb (by simp [q']))).trans (hk c o (fun q' => hb (by simp [q'])) (fun q' => hb (by simp [q'])) (fun q' => hb (by simp [q'])) (fun q' => hb (by simp [q'])) q)) hf (Nat.le_refl _) new
    have e1 : ∀ l, SqT X.K H a l → l = xs := fun l hl => I.tuple_inj hl hqx
    have e2 : ∀ l, SqL X.K H b l → l = ys := fun l hl => I.list_inj hl hqy
    refine ⟨.ref s.heap.objs.size, _, I1, rfl, ⟨_, x, y, rfl, I.hok.fresh (Nat.le_refl _), rfl, fun l hl => by rw [e1 l hl]; exact hx, fun l hl => by rw [e2 l hl]; exact hy⟩, ⟨z'', ?_, ⟨u, u2, ?_⟩, ?_, ?_⟩, fun c hcm => ?_⟩
    · exact (sb.2 _ D.TIz).trans (hk _ _ D.TIz D.TITO D.TIi1 D.TIi2 hTI)
    · exact (sb.2 _ D.TOz).trans TO'
    · exact h1'.at fun o q => (sb.2 _ D.i1z).trans q
    · exact h2'.at fun o q => (sb.2 _ D.i2z).trans q
    · have hlt : c < s.heap.objs.size := by
        have e' : c = z ∨ c = TI ∨ c = TO ∨ c = i1 ∨ c = i2 := by simpa using hcm
        rcases e' with q | q | q | q | q
        · rw [q]; exact hzl
        · rw [q]; exact Heap.lt_size hTI
        · rw [q]; exact Heap.lt_size hTO
        · rw [q]; obtain ⟨_, e1, _⟩ := h1; exact Heap.lt_size e1
        · rw [q]; obtain ⟨_, e2, _⟩ := h2; exact Heap.lt_size e2
      rw [upd_ne (Nat.ne_of_lt hlt)]
      exact (hf c hcm).1
  done := by
    intro X hP hw hK hc i pins s σ H E I hf st hg
    subst hP hw hK
    obtain ⟨hz, hTI, ⟨x0, y0, hTO⟩, h1, h2⟩ := st
    obtain ⟨xs, ys, hqx, hqy, hend⟩ := hg
    obtain ⟨its, rv, p, _⟩ := I.tuple hqx
    obtain ⟨its2, rv2, p2, _⟩ := I.list hqy
    have l1 := rv.length
    have l2 := rv2.length
    have he : its.toArray[i]? = none ∨ its2.toArray[i]? = none := by
      rcases hend with q | q
      · exact .inl (by simp; omega)
      · exact .inr (by simp; omega)
    exact zip_over (feedT i1 a its.toArray) (feedL i2 b its2.toArray) (I.ok.hd hc) D hz hTI hTO h1 h2 p p2.isList he fun h' hk => ⟨rfl, I.turnedL (t' := s.toks) (ch := [z, TI, TO, i1, i2]) (fun c o hb q =>
      hk c o (fun q' => hb (by simp [q'])) (fun q' => hb (by simp [q'])) (fun q' => hb (by simp [q'])) (fun q' => hb (by simp [q'])) q) hf⟩
  self := fun A i s Q E st h => wpAny_pyIter_zip st.1 h
abbrev zipMH1 (h : Heap) (l1 : Addr) : Heap := h.push { cls := .type "tuple_iterator", data := .fields #[.ref l1, .int 0 0] }
abbrev zipMH2 (h : Heap) (l1 l2 : Addr) : Heap := (zipMH1 h l1).push { cls := .type "list_iterator", data := .fields #[.ref l2, .int 0 0] }
abbrev zipMH3 (h : Heap) (l1 l2 : Addr) : Heap := (zipMH2 h l1 l2).push { cls := .type "tuple", data := .seq #[.ref h.objs.size, .ref (zipMH1 h l1).objs.size] }
abbrev zipMH4 (h : Heap) (l1 l2 : Addr) : Heap := (zipMH3 h l1 l2).push { cls := .type "tuple", data := .seq #[.none, .none] }
abbrev zipMH5 (h : Heap) (l1 l2 : Addr) : Heap := (zipMH4 h l1 l2).push { cls := .type "zip", data := .fields #[.none, .bool false, .bool false, .ref (zipMH2 h l1 l2).objs.size, .ref (zipMH3 h l1 l2).objs.size] }
theorem meets_zipM_new (l1 l2 : Addr) (xs ys : Array Value) :
    Meets (Builtin.«zip.__new__» ⟨[.type "zip", .ref l1, .ref l2], []⟩) (fun _ R s => s.heap.IsTuple l1 xs ∧ s.heap.IsList l2 ys ∧
      R (.ok (.ret (.ref (zipMH4 s.heap l1 l2).objs.size))) { s with heap := zipMH5 s.heap l1 l2 }) :=
  .of_wp fun prog w A R s h => by
    obtain ⟨hp, g, d, tk, os⟩ := s; obtain ⟨hl1, hl2, h⟩ := h
    have hsub := sub_zip
    have hL1 : Heap.IsTuple (Shared.heap ⟨hp, g, d, tk, os⟩) l1 xs := hl1
    have hL2 : Heap.IsList (Shared.heap ⟨hp.push { cls := .type "tuple_iterator", data := .fields #[.ref l1, .int 0 0] }, g, d, tk, os⟩) l2 ys := Heap.IsList.push hl2 _
    wp_walk using wpAny_pyIter_tuple hL1, wpAny_pyIter_list hL2
    exact ⟨_, rfl, h⟩
section
variable {prog : Program} {w : World} {A : Around} {E : Value → Shared → Prop} {s : Shared}
theorem call_zipM {l1 l2 : Addr} {xs ys : Array Value} {Q : Value → Shared → Prop} (hl1 : s.heap.IsTuple l1 xs) (hl2 : s.heap.IsList l2 ys)
    (h : ∀ h', IsZip h' (s.heap.objs.size + 4) (s.heap.objs.size + 2) (s.heap.objs.size + 3) .none → IsPair h' (s.heap.objs.size + 2) (.ref s.heap.objs.size) (.ref (s.heap.objs.size + 1)) →
      IsPair h' (s.heap.objs.size + 3) .none .none → h'.IsTupleIter s.heap.objs.size l1 0 → h'.IsListIter (s.heap.objs.size + 1) l2 0 → h'.objs.size = s.heap.objs.size + 5 →
      (∀ c o, s.heap.get? c = some o → h'.get? c = some o) → Q (.ref (s.heap.objs.size + 4)) { s with heap := h' }) :
    wpAny (model prog w) A (call (.type "zip") [.ref l1, .ref l2]) Q E s := by
  refine callType_new F.called_zip (by decide) (F.typeCall_zip_2 _ _) (F.newCall_zip_2 _ _) (fun obj => F.args_object_init_3 obj _ _) F.entry_zip_new
    (meets_zipM_new l1 l2 xs ys) ⟨hl1, hl2, ?_⟩
  have z1 : (zipMH1 s.heap l1).objs.size = s.heap.objs.size + 1 := Heap.size_push ..
  have z2 : (zipMH2 s.heap l1 l2).objs.size = s.heap.objs.size + 2 := by rw [Heap.size_push, z1]
  have z3 : (zipMH3 s.heap l1 l2).objs.size = s.heap.objs.size + 3 := by rw [Heap.size_push, z2]
  have z4 : (zipMH4 s.heap l1 l2).objs.size = s.heap.objs.size + 4 := by rw [Heap.size_push, z3]
  have z5 : (zipMH5 s.heap l1 l2).objs.size = s.heap.objs.size + 5 := by rw [Heap.size_push, z4]
  have g5 : (zipMH5 s.heap l1 l2).get? (zipMH4 s.heap l1 l2).objs.size = some _ := Heap.get?_push_size _ rfl
  have g4 : (zipMH5 s.heap l1 l2).get? (zipMH3 s.heap l1 l2).objs.size = some _ := Heap.get?_push_of_some _ (Heap.get?_push_size _ rfl)
  have g3 : (zipMH5 s.heap l1 l2).get? (zipMH2 s.heap l1 l2).objs.size = some _ := Heap.get?_push_of_some _ (Heap.get?_push_of_some _ (Heap.get?_push_size _ rfl))
  have g2 : (zipMH5 s.heap l1 l2).get? (zipMH1 s.heap l1).objs.size = some _ := Heap.get?_push_of_some _ (Heap.get?_push_of_some _ (Heap.get?_push_of_some _ (Heap.get?_push_size _ rfl)))
  have g1 : (zipMH5 s.heap l1 l2).get? s.heap.objs.size = some _ := Heap.get?_push_of_some _ (Heap.get?_push_of_some _ (Heap.get?_push_of_some _ (Heap.get?_push_of_some _ (Heap.get?_push_size _ rfl))))
  show _ ∧ _
  rw [z2, z3, z4] at g5
  rw [z1, z2] at g3
  rw [z3] at g4
  rw [z1] at g2
  rw [z4]
  exact ⟨⟨_, g5, rfl⟩, h _ g5 g3 g4 ⟨_, g1, rfl, rfl⟩ ⟨_, g2, rfl, rfl⟩ z5 fun c o x =>
    Heap.get?_push_of_some _ (Heap.get?_push_of_some _ (Heap.get?_push_of_some _ (Heap.get?_push_of_some _ (Heap.get?_push_of_some _ x))))⟩
end
/-- zip of two lists, or of a tuple and a list -/
def iZip2 (K : PySem.W.Frag) (ta : TA) : TI := fun σ H R => ta σ H fun vs H1 => ∃ a b xs ys, vs = [.ref a, .ref b] ∧ SqL K H1 b ys ∧ ((SqL K H1 a xs ∧ R (Itz K a b) H1) ∨ (SqT K H1 a xs ∧ R (ItzM K a b) H1))
theorem pi_zip2 {X : Cx} {e e2 : Expr} {ta : TA} {p pos tpos : Pos} {elts : List Expr} {kk : Nat} (hg : Gl X "zip") (hm : X.mg "zip" = none) (ha : PA X [e, e2] ta)
    (hs : starEach [e, e2] X.env = (false, eval e X.env) :: starEach [e2] X.env := by rfl) (hpl : (backTo pos (starEach [e2] X.env)).any (·.1) = false := by rfl) :
    PI X (.Tuple elts kk tpos) (.Call (.Name "zip" p) [e, e2] [] pos) (iZip2 X.K ta) := by
  refine ⟨fun pins s σ H R I h => ?_⟩
  refine Call_ (ld_blt I hg hm PyProof.Rows.boot_zip (PyProof.Rows.callWith_type1 (thn (ha.run pos pins s σ H _ I h) fun us s1 ⟨vs, H1, I1, r1, q1⟩ => ?_) hs hpl))
  obtain ⟨a, b, xs, ys, ex, hqy, q1⟩ := q1
  subst ex
  cases r1 with
  | cons r rr =>
    cases rr with
    | cons r' rr =>
      cases rr
      cases r
      cases r'
      have fresh5 : ∀ c, c ∈ [s1.heap.objs.size + 4, s1.heap.objs.size + 2, s1.heap.objs.size + 3, s1.heap.objs.size, s1.heap.objs.size + 1] → FpOk X pins H1 c := fun c hcm => by
        have e' : c = s1.heap.objs.size + 4 ∨ c = s1.heap.objs.size + 2 ∨ c = s1.heap.objs.size + 3 ∨ c = s1.heap.objs.size ∨ c = s1.heap.objs.size + 1 := by simpa using hcm
        have hle : s1.heap.objs.size ≤ c := by
          rcases e' with z | z | z | z | z
          · rw [z]; exact Nat.le_add_right _ _
          · rw [z]; exact Nat.le_add_right _ _
          · rw [z]; exact Nat.le_add_right _ _
          · rw [z]; exact Nat.le_refl _
          · rw [z]; exact Nat.le_add_right _ _
        exact I1.fpOk hle (I1.hok.fresh hle)
      obtain ⟨its2, rv2, p2, _⟩ := I1.list hqy
      rcases q1 with ⟨hqx, q⟩ | ⟨hqx, q⟩
      · obtain ⟨its, rv, p1, _⟩ := I1.list hqx
        refine call_zip_2 p1.isList p2.isList fun h' hz hTI hTO h1 h2 hsz hk => wpAny_pyIter_zip hz ?_
        have I2 : Inv X pins σ H1 { s1 with heap := h' } := I1.kept (t' := s1.toks) hk
        exact ⟨s1.heap.objs.size + 4, [s1.heap.objs.size + 4, s1.heap.objs.size + 2, s1.heap.objs.size + 3, s1.heap.objs.size, s1.heap.objs.size + 1], _, _, H1, rfl, I2, turn_zip (PySem.W.ktu_apart s1.heap.objs.size a b p1.lt p2.lt), ⟨hz, hTI, ⟨_, _, hTO⟩, h1, h2⟩, fresh5, q⟩
      · obtain ⟨its, rv, p1, _⟩ := I1.tuple hqx
        obtain ⟨o1, ho1, _⟩ := id p1
        refine call_zipM (show s1.heap.IsTuple a its.toArray from p1) p2.isList fun h' hz hTI hTO h1 h2 hsz hk => wpAny_pyIter_zip hz ?_
        have I2 : Inv X pins σ H1 { s1 with heap := h' } := I1.kept (t' := s1.toks) hk
        exact ⟨s1.heap.objs.size + 4, [s1.heap.objs.size + 4, s1.heap.objs.size + 2, s1.heap.objs.size + 3, s1.heap.objs.size, s1.heap.objs.size + 1], _, _, H1, rfl, I2, turn_zipM (PySem.W.ktu_apart s1.heap.objs.size a b (Heap.lt_size ho1) p2.lt), ⟨hz, hTI, ⟨_, _, hTO⟩, h1, h2⟩, fresh5, q⟩
/-- a loop over two sequences of one length, side by side -/
theorem for_zz {A B : Hp → List V → Prop} {xs ys : List V} {g : TG} {tb : TS} {D : Ends} {σ : L2.St} {H : Hp} (hl : xs.length = ys.length) (Pv : Nat → L2.St → Hp → Prop) (h0 : Pv 0 σ H) (hq : ∀ i σ H, Pv i σ H → A H xs ∧ B H ys)
    (hs : ∀ (i : Nat) (x y : V) (T : Addr) (σ : L2.St) (H : Hp), xs[i]? = some x → ys[i]? = some y → Pv i σ H → H T = none → g (.ref T) σ (upd H T (.tup [x, y])) fun σ2 H2 => tb { D with nx := Pv (i + 1), ct := Pv (i + 1), bk := D.nx } σ2 H2) (hd : ∀ σ H, Pv xs.length σ H → D.nx σ H) :
    ∃ W : Nat → Nat → L2.St → Hp → Prop, (∃ m, W 0 m σ H) ∧ ∀ i m σ H, W i m σ H →
      ((Itzz A B).stop i H ∧ D.nx σ H) ∨ ((Itzz A B).go i H ∧ ∃ N : L2.St → Hp → Prop, (∀ σ' H', N σ' H' → ∃ m', m' < m ∧ W (i + 1) m' σ' H') ∧ ∀ v H', (Itzz A B).yld i H v H' → g v σ H' fun σ2 H2 => tb { D with nx := N, ct := N, bk := D.nx } σ2 H2) := by
  refine ⟨fun i m σ H => m = xs.length - i ∧ i ≤ xs.length ∧ Pv i σ H, ⟨xs.length, rfl, Nat.zero_le _, h0⟩, ?_⟩
  rintro i m σ H ⟨rfl, hi, p⟩
  obtain ⟨qx, qy⟩ := hq i σ H p
  by_cases hlt : i < xs.length
  · have hx : xs[i]? = some xs[i] := List.getElem?_eq_getElem hlt
    have hlt2 : i < ys.length := by omega
    have hy : ys[i]? = some ys[i] := List.getElem?_eq_getElem hlt2
    refine .inr ⟨⟨xs, ys, _, _, qx, qy, hx, hy⟩, Pv (i + 1), fun σ' H' p' => ⟨xs.length - (i + 1), by omega, rfl, hlt, p'⟩, fun v H' y => ?_⟩
    obtain ⟨T, x', y', rfl, hT, rfl, f1, f2⟩ := y
    exact hs i x' y' T σ H (f1 xs qx) (f2 ys qy) p hT
  · have e : i = xs.length := by omega
    subst e
    exact .inl ⟨⟨xs, ys, qx, qy, Or.inl (Nat.le_refl _)⟩, hd σ H p⟩
section
variable {β : Type} {A B : Hp → List V → Prop} {xs zs : List V} {g : TG} {tt : TT} {te : TE} {vs : List Nat} {σ : L2.St} {H1 : Hp} {D : Addr} {Qd : Hp → Prop}
/-- a comprehension over two sequences that stand -/
theorem lc_tellZ (R : Hp → V → β → Prop) (ys : List (Option β)) (hD : H1 D = none) (ha : ∀ H, Same H1 H → A H xs ∧ B H zs) (hl : xs.length = ys.length) (hl2 : zs.length = ys.length) (hz : ys.length < sizeLine) (mono : ∀ H H' v b, Same H H' → R H v b → R H' v b)
    (hs : ∀ (i : Nat) (x y : V) (T : Addr) (o : Option β) (H : Hp), xs[i]? = some x → zs[i]? = some y → ys[i]? = some o → Same H1 H → (∃ acc, H D = some (.lst acc)) → H T = some (.tup [x, y]) → Turn g tt te vs σ R D H (.ref T) o)
    (hd : ∀ H acc, Same H1 H → H D = some (.lst acc) → Paired (R H) acc (ys.filterMap id) → Qd H) :
    ∃ W : Nat → Nat → Hp → Prop, (∃ m, W 0 m (upd H1 D (.lst []))) ∧ ∀ i m H, W i m H →
      ((Itzz A B).stop i H ∧ Qd H) ∨ ((Itzz A B).go i H ∧ ∃ Nx : Hp → Prop, (∀ H', Nx H' → ∃ m', m' < m ∧ W (i + 1) m' H') ∧ ∀ x H', (Itzz A B).yld i H x H' → g x (wipe σ vs) H' fun σ2 H2 => wipe σ2 vs = wipe σ vs ∧ tt σ2 H2 fun b H3 =>
        if b = true then te σ2 H3 fun y H4 => ∃ acc, H4 D = some (.lst acc) ∧ acc.length < sizeLine ∧ Nx (upd H4 D (.lst (acc ++ [y]))) else Nx H3) := by
  refine ⟨fun i m H => m = ys.length - i ∧ i ≤ ys.length ∧ Acc R H1 D ys i H, ⟨ys.length, by simp, Nat.zero_le _, acc_zero hD⟩, ?_⟩
  rintro i m H ⟨rfl, hi, p⟩
  obtain ⟨qx, qy⟩ := ha H p.1
  by_cases lt : i < ys.length
  · have hx : xs[i]? = some (xs[i]'(by omega)) := List.getElem?_eq_getElem (by omega)
    have hy : zs[i]? = some (zs[i]'(by omega)) := List.getElem?_eq_getElem (by omega)
    refine .inr ⟨⟨xs, zs, _, _, qx, qy, hx, hy⟩, Acc R H1 D ys (i + 1), fun H' p' => ⟨ys.length - (i + 1), by omega, rfl, lt, p'⟩, fun x H' y => ?_⟩
    obtain ⟨T, x', y', rfl, hT, rfl, f1, f2⟩ := y
    have s : Same H (upd H T (.tup [x', y'])) := same_new hT
    have p' : Acc R H1 D ys i (upd H T (.tup [x', y'])) := by
      obtain ⟨s1, acc, e, pr⟩ := p
      exact ⟨s1.trans s, acc, CP.Same.to s e, pd_mono pr fun v b => mono _ _ v b (hide_mono s)⟩
    exact turn_of mono hD hz p' (List.getElem?_eq_getElem lt) (hs i x' y' T _ _ (f1 xs qx) (f2 zs qy) (List.getElem?_eq_getElem lt) p'.1 (p'.2.imp fun _ z => z.1) upd_same)
  · have e : i = ys.length := by omega
    subst e
    obtain ⟨s, acc, e, pr⟩ := acc_end mono p
    exact .inl ⟨⟨xs, zs, qx, qy, Or.inl (by omega)⟩, hd H acc s e pr⟩
/-- values alone -/
theorem lc_valsZ (ys : List V) (hD : H1 D = none) (ha : ∀ H, Same H1 H → A H xs ∧ B H zs) (hl : xs.length = ys.length) (hl2 : zs.length = ys.length) (hz : ys.length < sizeLine)
    (hs : ∀ (i : Nat) (x y : V) (T : Addr) (o : V) (H : Hp), xs[i]? = some x → zs[i]? = some y → ys[i]? = some o → Same H1 H → H T = some (.tup [x, y]) → Turn (β := V) g tt te vs σ (fun _ x b => x = b) D H (.ref T) (some o)) (hd : ∀ H, Same H1 H → H D = some (.lst ys) → Qd H) :
    ∃ W : Nat → Nat → Hp → Prop, (∃ m, W 0 m (upd H1 D (.lst []))) ∧ ∀ i m H, W i m H →
      ((Itzz A B).stop i H ∧ Qd H) ∨ ((Itzz A B).go i H ∧ ∃ Nx : Hp → Prop, (∀ H', Nx H' → ∃ m', m' < m ∧ W (i + 1) m' H') ∧ ∀ x H', (Itzz A B).yld i H x H' → g x (wipe σ vs) H' fun σ2 H2 => wipe σ2 vs = wipe σ vs ∧ tt σ2 H2 fun b H3 =>
        if b = true then te σ2 H3 fun y H4 => ∃ acc, H4 D = some (.lst acc) ∧ acc.length < sizeLine ∧ Nx (upd H4 D (.lst (acc ++ [y]))) else Nx H3) := by
  refine lc_tellZ (β := V) (fun _ x b => x = b) (ys.map some) hD ha (by rw [List.length_map]; exact hl) (by rw [List.length_map]; exact hl2) (by rw [List.length_map]; exact hz) (fun _ _ _ _ _ z => z) (fun i x y T o H hx hy ho s1 _ hT => ?_) fun H acc s1 hacc pp => ?_
  · rw [List.getElem?_map] at ho
    cases ey : ys[i]? with
    | none => rw [ey] at ho; cases ho
    | some y =>
      rw [ey] at ho
      cases ho
      exact hs i x _ T y H hx hy ey s1 hT
  · have e : acc = ys := by
      rw [pd_eq pp, List.filterMap_map]
      exact List.filterMap_some
    subst e
    exact hd H s1 hacc
end
end CP

set_option Elab.async false
set_option linter.all false
set_option maxRecDepth 100000
set_option maxHeartbeats 4000000
set_option autoImplicit false
/-! o.m(k = v, ..): a method called with keywords alone -/
namespace CP
open L2 PySem PyProof.Rows
structure KM1 (K : PySem.W.Frag) (fd : FuncData) (ps ks : List Str) (g : Value → List Value → List Value) (gV : V → List V → List V) : Prop where
  to : ∀ (s : Shared) (u : Value) (ws : List Value), K.In s.heap → ws.length = ks.length → BindsTo s fd ⟨[u], ks.zip ws⟩ (ps.zip (g u ws))
  rel : ∀ {x : V} {u : Value} {zs : List V} {ws : List Value}, RelV x u → Vals zs ws → zs.length = ks.length → Vals (gV x zs) (g u ws)
def tMethK (C : Addr) (m : Str) (n : Nat) (sp : Sp) (gV : V → List V → List V) (E : XK) (ta : TE) (tk : TA) : TE := fun σ H Q => ta σ H fun x H1 => ∃ a dx fs, x = .ref a ∧ H1 a = some (.ins C dx fs) ∧ fs.lookup m = none ∧ tk σ H1 fun zs H2 => zs.length = n ∧ sp (gV (.ref a) zs) H2 Q E
section
variable {X : Cx} {CX : CXT} {k n : Nat} {f C : Addr} {fd : FuncData} {ps ks : List Str} {sp : Sp} {E : XK} {m : Str} {pos apos : Pos} {o : Expr} {kws : List Keyword} {ta : TE} {tk : TA} {g : Value → List Value → List Value} {gV : V → List V → List V}
theorem pe_methK {pl : Sem Bool} (he : PE X o ta) (c : Cls X.K C) (hm : Meth X.K C m f) (F : FnOk X.prog X.w X.K X.mg X.base CX k f fd ps sp) (hr : Room k X.A) (hb : KM1 X.K fd ps ks g gV) (hx : Passes CX X E) (hkw : PK X kws tk)
    (hall : (backToKw pos (keywordEach kws X.env)).all (·.1.isSome) = true := by rfl) (hks : (backToKw pos (keywordEach kws X.env)).filterMap (·.1) = ks := by rfl) (hlen : ks.length = n := by rfl)
    (hpl : ((backTo pos (starEach [] X.env)).any (·.1) || (backToKw pos (keywordEach kws X.env)).any (·.1.isNone)) = false := by rfl)
    (ht : eval (.Call (.Attribute o m apos) [] kws pos) X.env = (do
      let ov ← eval o X.env
      standAt apos.atName
      let (f, first) ← holding [ov] (getMethod ov m pl)
      callWith pos f first (backTo pos (starEach [] X.env)) (backToKw pos (keywordEach kws X.env))) := by rfl) :
    PE X (.Call (.Attribute o m apos) [] kws pos) (tMethK C m n sp gV E ta tk) := by
  subst hlen
  refine ⟨fun pins s σ H Q I h => ?_⟩
  refine PySem.W.methodCall_KW (pl := pl) (thn (he.run pins s σ H _ I h) fun u s1 ⟨x, H1, I1, rx, a, dx, fs, ex, ea, l, q⟩ => ?_) ht
  subst ex
  obtain rfl : u = Value.ref a := rx
  refine getmeth_ok I1 ea c hm l ?_
  refine PySem.W.callWith_KW0 (first := [.ref a]) (h₀ := X.base) I.ok.mod.kin hm.kp hall (thn (hkw.run pos pins s1 σ H1 _ I1 q) fun ws s2 ⟨zs, H2, I2, r, l, q2⟩ => ⟨I2.kIn, ?_⟩) hpl
  rw [hks]
  have lw : ws.length = ks.length := r.length.symm.trans l
  refine wpAny_call (codeAny_mono (F.run X.A X.stack s2 H2 ⟨[.ref a], ks.zip ws⟩ (g (.ref a) ws) (gV (.ref a) zs) Q E hr I2.env0 (hb.to s2 (.ref a) ws I2.kIn lw) (hb.rel rfl r l) q2) fun r s' hq => ?_)
  cases r with
  | error e => exact hx pins σ H2 s2 e s' I2 hq
  | ok fl =>
    cases fl with
    | ret u => exact I2.after hq
    | next => exact False.elim hq
    | brk => exact False.elim hq
    | cont => exact False.elim hq
end
theorem Fun.km {K : PySem.W.Frag} {x qual : Str} {st : Stmt} {f : Addr} {fd : FuncData} {ps ks : List Str} {g : Value → List Value → List Value} {gV : V → List V → List V} (F : Fun K x qual st f fd)
    (h : ∀ (kV doc pm : Value) (an : Option Addr) (cdv ct : Value) (u : Value) (ws : List Value), ws.length = ks.length → bindArgs (PySem.W.fnOf x qual (defArgs st) (defBody st) (defScope st) .none kV doc pm an cdv ct) ⟨[u], ks.zip ws⟩ = pure (ps.zip (g u ws)))
    (hr : ∀ {x : V} {u : Value} {zs : List V} {ws : List Value}, RelV x u → Vals zs ws → zs.length = ks.length → Vals (gV x zs) (g u ws)) : KM1 K fd ps ks g gV := by
  obtain ⟨oc, od, kV, doc, pm, an, cdv, ct, osl, rfl, lk, hcd⟩ := F.ex
  exact ⟨fun s u ws _ hl => .of_eq (h kV doc pm an cdv ct u ws hl), hr⟩
section
variable {σ : L2.St} {H : Hp} {Q : VK} {C : Addr} {m : Str} {n : Nat} {sp : Sp} {gV : V → List V → List V} {E : XK} {ta : TE} {tk : TA}
theorem r_methK (q : ta σ H fun x H1 => ∃ a dx fs, x = .ref a ∧ H1 a = some (.ins C dx fs) ∧ fs.lookup m = none ∧ tk σ H1 fun zs H2 => zs.length = n ∧ sp (gV (.ref a) zs) H2 Q E) : tMethK C m n sp gV E ta tk σ H Q := q
end
end CP

set_option Elab.async false
set_option linter.all false
set_option maxRecDepth 100000
set_option maxHeartbeats 4000000
set_option autoImplicit false
/-! len of an instance of a class with its own __len__ -/
namespace CP
open L2 PySem PyProof.Rows
def rLenO (C : Addr) (sp : Sp) (E : XK) : List V → Hp → VK → Prop := fun xs H Q => ∃ a dx fs, xs = [.ref a] ∧ H a = some (.ins C dx fs) ∧ sp [.ref a] H (fun v H' => ∃ n : Int, v = .int n ∧ 0 ≤ n ∧ n < 2 ^ 63 ∧ Q (.int n) H') E
section
variable {X : Cx} {CX : CXT} {k : Nat} {C f : Addr} {fd : FuncData} {ps : List Str} {sp : Sp} {E : XK}
theorem call_lenO (M : Meth X.K C "__len__" f) (F : FnOk X.prog X.w X.K X.mg X.base CX k f fd ps sp) (hr : Room (k + 1) X.A) (hb : Binds X.K fd ps []) (hx : Passes CX X E) : CallR X (.builtin "len") (rLenO C sp E) := by
  intro pins s σ H xs us Q I rx h
  obtain ⟨a, dx, fs, rfl, ha, pr⟩ := h
  obtain ⟨u, rfl, ru⟩ := vals1 rx
  cases ru
  obtain ⟨mA, J, _⟩ := ins_get I.hok ha
  obtain ⟨o1, J, _⟩ := J.look
  obtain ⟨m, hF⟩ := I.fr
  have room : Room k X.A.in1 := hr.in1
  refine PySem.W.len_K hF I.ok.mod.kin J M.at_ M.fn ?_
  have e0 : Env0 X.prog X.w X.K X.mg X.base X.A.in1 X.stack s H := I.env0.in1
  have hl := F.len _ _ _ _ pr
  refine wpAny_call (codeAny_mono (F.run X.A.in1 X.stack s H ⟨[.ref a], []⟩ [.ref a] [.ref a] _ E room e0 (by
    have z := hb s [.ref a] I.kIn (by simpa using hl)
    simpa using z) (.cons rfl .nil) pr) fun r s' z => ?_)
  match r, z with
  | .error e, z => exact hx pins σ H s e s' I z
  | .ok (.ret t), z =>
    obtain ⟨zv, H', I', rz, n, en, n0, n1, q⟩ := I.after z
    subst en
    obtain ⟨tk, rfl⟩ := rz
    exact ⟨⟨n0, n1⟩, .int n, H', I'.tok _, ⟨_, rfl⟩, q⟩
theorem r_lenO {a dx : Addr} {fs : List (Str × V)} {H : Hp} {Q : VK} (ha : H a = some (.ins C dx fs)) (h : sp [.ref a] H (fun v H' => ∃ n : Int, v = .int n ∧ 0 ≤ n ∧ n < 2 ^ 63 ∧ Q (.int n) H') E) : rLenO C sp E [.ref a] H Q := ⟨a, dx, fs, rfl, ha, h⟩
end
end CP

set_option Elab.async false
set_option linter.all false
set_option maxRecDepth 100000
set_option maxHeartbeats 4000000
set_option autoImplicit false
/-! sorted by a key whose calls may change what is tracked -/
namespace SrtK
open PySem PySem.W PySem.Calls PyProof.Rows
section
variable {prog : Program} {w : World} {A : Around} {E : Value → Shared → Prop} {s : Shared} {P : PySem.Fin → Shared → Prop} {b : Bool} {a kS : Addr} {vs : List Value} {kz : List PyData} {e1 : Nat}
end
end SrtK

set_option Elab.async false
set_option linter.all false
set_option maxRecDepth 100000
set_option maxHeartbeats 4000000
set_option autoImplicit false
/-! a lambda with one parameter, called while the frame that made it stands -/
namespace LamP
open PySem PySem.Spec PyProof.Rows L2 LamX
/-- one parameter, no other name of its own: captured ones and globals -/
structure LamQ (sc scope : Scope) (p : Str) : Prop where
  kind : scope.kind = .function
  co : scope.isCoroutine = false
  gen : scope.isGenerator = false
  par : scope.names.lookup p = some .local
  own : ∀ y ∈ scope.names, y.2 ≠ .cell ∧ (y.2 = .local → y.1 = p)
  free : ∀ y ∈ scope.names, y.2 = .free → sc.names.lookup y.1 = some .cell ∨ sc.names.lookup y.1 = some .free
theorem LamQ.has {X : Cx} {scope : Scope} {p : Str} (L : LamQ X.env.scope scope p) (ok : X.Ok) : ∀ y ∈ scope.names, y.2 = .free → ∃ c, X.env.cells.lookup y.1 = some c := fun y hy e => by
  rcases L.free y hy e with k | k
  · exact ok.has _ (.inl k)
  · exact ok.has _ (.inr k)
section
variable {X : Cx} {pins : List (Addr × Obj)} {σ : L2.St} {H : Hp} {s : Shared}
end
end LamP

set_option Elab.async false
set_option linter.all false
set_option maxRecDepth 100000
set_option maxHeartbeats 4000000
set_option autoImplicit false
/-! sorted(xs, key=lambda p: ..), whole keys -/
namespace LamP
open PySem PySem.Spec PySem.W PyProof.Rows L2 LamX
section
variable {X : Cx}
end
end LamP

set_option Elab.async false
set_option linter.all false
set_option maxRecDepth 100000
set_option maxHeartbeats 4000000
set_option autoImplicit false
/-! the end of a law where one def makes a lambda -/
namespace LamP
open PySem PySem.Spec PyProof.Rows L2 LamX
/-- where the code object and the table of the def x stand, the table empty -/
def TabOf (K : PySem.W.Frag) (x : Str) (h : Heap) : Prop := ∀ c P : Addr, PySem.W.tabIn K x = some (c, P) → PySem.W.CodeHd h c P ∧ h.get? P = some { cls := .none, data := .fields #[] }
theorem walk_lam {l : PySem.W.OpenLaw} {n k : Nat} {q : Program} {loose : List Str} {XP : (Str → Option Value) → Heap → Prop} {YP : World → Heap → Prop} {d dL : DefRec} {K : Params → PySem.W.Frag} {CX : World → CXT} {x xL : Str}
    (hn : l.most = some n) (hn2 : n ≤ sizeLine) (hdf : d.params.defaults = []) (hr : Room k callerA) (hrec : (recsOf q).find? (fun e => e.name == xL) = some dL) (hY : ∀ (w : World) (h : Heap), YP w h → (K w.params).In h)
    (F : ∀ (w : World) (mg : Str → Option Value) (fa : Addr) (h : Heap), YP w h → (K w.params).In h → h.Ns mainGlobals mg → mg d.name = some (.ref fa) → TabOf (K w.params) xL h → LawAtS l w (K w.params) (CX w) k n x mg fa h)
    (hCX : ∀ (w : World) (H : Hp) (s : Shared) (e : Value) (s' : Shared), CX w [] H s (fun _ _ _ => False) e s' → False) :
    PySem.W.WalkO q loose XP YP l.row.toRowW d [] (fun f vs => PySem.call f vs) := by
  refine Att.attach_callB hn hdf fun w s₀ s₁ mg mb fa o pm cd doc a vs ns G Y ho hd hcd hmg hobj hints hlen hbits hg => ?_
  have KX := hY w _ Y
  obtain ⟨fd, cs, sp, hT, nT, C, hb, hsp, hF⟩ := F w mg fa _ Y KX G.T.g hmg fun c P ht => PySem.W.tab_of G.T KX hrec ht
  exact law_callTs KX G.T.g G.T.b G.T.builtins G.T.nolimit hg hT nT C G.T.bmain hobj hints (Nat.le_trans hlen hn2) hr hF hb (fun H hH hS => hsp H a ns hlen hbits hH hS) fun H e s' => hCX w H s₁ e s'
end LamP
namespace LamP
open PySem PySem.Spec PyProof.Rows L2 LamX
/-- the def at f has its code object at c -/
def CodeIs (K : PySem.W.Frag) (f c : Addr) : Prop := ∀ o fd, K.lookup f = some o → o.data = .func fd → fd.code = .ref c
theorem code_is {K : PySem.W.Frag} {x : Str} {f c P : Addr} (ha : PySem.W.nsIn K mainGlobals x = some (some (.ref f))) (ht : PySem.W.tabIn K x = some (c, P)) : CodeIs K f c := by
  intro o fd ho hd
  unfold PySem.W.tabIn at ht
  rw [ha] at ht
  simp only [ho] at ht
  obtain ⟨oc, od, dt, osl⟩ := o
  simp only at hd
  subst hd
  simp only at ht
  split at ht
  · rename_i c2 hc2
    split at ht
    · split at ht
      · injection ht with h
        injection h with h1 h2
        rw [← h1]
        exact hc2
      · cases ht
    · cases ht
  · cases ht
section
variable {P : Program} {w : World} {K : PySem.W.Frag} {mg : Str → Option Value} {base : Heap}
theorem okC {x qual : Str} {st : Stmt} {f c : Addr} {fd : FuncData} {N ps : List Str} {k : Nat} {sp : Sp} (F : Fun K x qual st f fd) (hc : CodeIs K f c) (S : FnScope N ps (defScope st)) (len : ∀ vs H Q E, sp vs H Q E → vs.length = ps.length)
    (hbody : ∀ (A : Around) (outer : List Env) (s : Shared) (H : Hp) (vs : List V) (Q : VK) (E : XK), Room k (A.deeper (envOfC qual (defScope st) s.heap.objs.size f (.ref c))) → sp vs H Q E →
      ∃ t, PSs (cxOf C8.CX0 P w K mg base N qual (defScope st) f (.ref c) A outer s H E).nox (defBody st) t ∧ t { nx := fun _ H' => Q .non H', rt := Q } (start N vs) H) : FnOk P w K mg base C8.CX0 (k + 1) f fd ps sp := by
  obtain ⟨oc, od, kV, doc, pm, an, cdv, ct, osl, rfl, lk, hcd⟩ := F.ex
  have e : cdv = .ref c := hc _ _ lk rfl
  subst e
  refine fn_of lk hcd S len fun A outer s H vs Q E hr hsp => ?_
  obtain ⟨t, h, q⟩ := hbody A outer s H vs Q E hr hsp
  exact ⟨t, h.nox, q⟩
end
end LamP

set_option Elab.async false
set_option linter.all false
set_option maxRecDepth 100000
set_option maxHeartbeats 4000000
set_option autoImplicit false
/-! sorted(xs) of a list of alike data (tuples of numbers and lists of texts, ..), `x in xs` of a list of data where none is like x -/
namespace CP
open L2 PySem PySem.W PyProof.Rows
end CP

set_option Elab.async false
set_option linter.all false
set_option maxRecDepth 100000
set_option maxHeartbeats 4000000
set_option autoImplicit false
/-! dict(d) of a dict whose keys are tuples, at most one key -/
namespace PySem
theorem ct_nodup {α : Type} : ∀ l : List α, l.length ≤ 1 → l.Nodup
  | [], _ => List.nodup_nil
  | [x], _ => List.nodup_cons.mpr ⟨by simp, List.nodup_nil⟩
  | _ :: _ :: _, h => by simp at h
section
variable {prog : Program} {w : World} {K : Type} [DecidableEq K] {knd : HeapKind prog w K} {A : Around} {E : Value → Shared → Prop} {s : Shared}
theorem ct_call_dictH {o : Addr} {more : List (K × Addr × Value)} {Q : Value → Shared → Prop} (hu : knd.room A.in1.in1) (hoS : (o == sysModules) = false) (ho : s.heap.DictOfH knd o more) (hst : ∀ x ∈ more, knd.is (s.heap.push { cls := .type "dict", data := .dict #[] }) x.1 x.2.1) (hty : ∀ x ∈ more, s.TypeIs (.ref x.2.1) "tuple") (one : more.length ≤ 1)
    (h : ∀ h', h'.DictOfH knd s.heap.objs.size more → Heap.SameBut s.heap.objs.size (s.heap.push { cls := .type "dict", data := .dict #[] }) h' → Q (.ref s.heap.objs.size) { s with heap := h' }) :
    wpAny (model prog w) A (call (.type "dict") [.ref o]) Q E s := by
  refine callType_codes (Q₁ := fun obj s₁ => obj = .ref s.heap.objs.size ∧ s₁ = { s with heap := s.heap.push { cls := .type "dict", data := .dict #[] } }) F.kt_called_dict (F.kt_typeCall_dict_1 _) F.entry_dict_init (kt_code_dict_new _ ⟨rfl, rfl⟩) ?_
  rintro obj s₁ ⟨rfl, rfl⟩
  have hnew : (s.heap.push { cls := .type "dict", data := .dict #[] }).DictOfH knd s.heap.objs.size [] := Heap.DictOfH.new s.heap
  have ho' : (s.heap.push { cls := .type "dict", data := .dict #[] }).DictOfH knd o more := ho.at' (fun _ e => Heap.get?_push_of_some _ e) hst
  have hdo : s.heap.objs.size ≠ o := by
    obtain ⟨_, _, _, hg, _⟩ := ho
    exact fun e => absurd (Heap.lt_size hg) (by rw [e]; exact Nat.lt_irrefl _)
  refine ⟨hnew.typeIs, F.args_dict_init_2 _ _, ?_⟩
  unfold Builtin.«dict.__init__»
  refine wpAny_bind ?_
  unfold Builtin.Dict.selfAndRest
  refine wpAny_bind (wpAny_notOrdered_dict hnew.typeIs ?_)
  show wpAny _ _ (pure (s.heap.objs.size, [Value.ref o])) _ _ _
  refine wpAny_pure ?_
  show wpAny _ _ (Builtin.Dict.updateFrom "dict.__init__" s.heap.objs.size (.ref o) [] .none) _ _ _
  have nd : (more.map fun x => knd.hash x.1).Nodup := ct_nodup _ (by rw [List.length_map]; exact one)
  have st : storedAllH [] more = more := storedAllH_nil_of_nodup more ho.nodup
  refine updateFrom_dictH (knd := knd) .none hu hdo hoS hnew ho' (.inr ⟨fun x hx => ?_, nd⟩) (by rw [List.length_nil, Nat.zero_add]; exact Nat.le_trans one (by decide)) fun h' hd' _ hs' => ?_
  · obtain ⟨ob, h1, h2⟩ := hty x hx
    exact ⟨ob, Heap.get?_push_of_some _ h1, h2⟩
  · rw [st] at hd'
    exact ⟨rfl, h h' hd' hs'⟩
end
end PySem

set_option Elab.async false
set_option linter.all false
set_option maxRecDepth 100000
set_option maxHeartbeats 4000000
set_option autoImplicit false
/-! dicts of texts and whole numbers: displays, their pairs walked, list(d) -/
namespace CP
open L2 PySem PyProof.Rows
section
variable {K : PySem.W.Frag} {σ : L2.St} {H : Hp} {Q : VK} {d : Addr} {kvs : List (Key × V)} {t td tk tv tk2 tv2 : TE} {ts : TS} {D : Ends} {R : It → Hp → Prop} {kv : List (Str × Int)}
/-- the end of a display -/
def DispEnd (p : Addr) (ps : List (V × V)) (H : Hp) (Q : VK) : Prop := H p = some (.dK []) ∧ ∃ kvs : List (Key × V), ps = kvs.map (fun kv => (kV kv.1, kv.2)) ∧ kvs.length ≤ 15 ∧ Q (.ref p) (upd H p (.dK (mergeK [] kvs)))
theorem r_disp2g (q : ∀ p H1, H p = none → Same H H1 → H1 p = some (.dK []) → tk σ H1 fun x H2 => tv σ H2 fun y H3 => tk2 σ H3 fun x2 H4 => tv2 σ H4 fun y2 H5 => DispEnd p [(x, y), (x2, y2)] H5 Q) : tDisp [(tk, tv), (tk2, tv2)] σ H Q := fun p p0 => q p _ p0 (same_new p0) upd_same
theorem disp_end2 {p : Addr} {k k2 : Str} {n n2 : Int} (h : H p = some (.dK [])) (q : ∀ H', SB p H H' → H' p = some (.dK (dV (setD [(k, n)] k2 n2))) → Q (.ref p) H') : DispEnd p [(.str k, .int n), (.str k2, .int n2)] H Q := by
  refine ⟨h, [(Sum.inr k, .int n), (Sum.inr k2, .int n2)], rfl, (by decide : 2 ≤ 15), ?_⟩
  have e : mergeK [] [(Sum.inr k, V.int n), (Sum.inr k2, V.int n2)] = dV (setD [(k, n)] k2 n2) := by
    rw [← dV_put [(k, n)] k2 n2 (by simp)]
    rfl
  rw [e]
  exact q _ sb_upd upd_same
end
section
variable {K : PySem.W.Frag} {od : Obj} {d : Addr} {kvs : List (Key × V)} {g : TG} {tb : TS} {D : Ends} {σ : L2.St} {H : Hp}
end
section
variable {β : Type} {a : Addr} {od : Obj} {kvs : List (Key × V)} {g : TG} {tt : TT} {te : TE} {vs : List Nat} {σ : L2.St} {H1 : Hp} {D : Addr} {Qd : Hp → Prop}
end
end CP

set_option Elab.async false
set_option linter.all false
set_option maxRecDepth 100000
set_option maxHeartbeats 4000000
set_option autoImplicit false
/-! dict(d), len(d), walks of a dict with tuple keys; with o() as x; a property read; a nested def called elsewhere -/
namespace CP
open PySem PySem.Spec PyProof.Rows L2
/-! ### dict(d) -/
def oTuple (K : PySem.W.Frag) : List V → Hp → VK → Prop := fun xs H Q => ∃ p ys, xs = [.ref p] ∧ ((SqL K H p ys ∧ ∀ l, H l = none → Q (.ref l) (upd H l (.tup ys))) ∨ (SqT K H p ys ∧ Q (.ref p) H))
theorem r_tupL {K : PySem.W.Frag} {H : Hp} {Q : VK} {p : Addr} {ys : List V} (h : SqL K H p ys) (q : ∀ l H', H l = none → Same H H' → H' l = some (.tup ys) → Q (.ref l) H') : oTuple K [.ref p] H Q :=
  ⟨p, ys, rfl, .inl ⟨h, fun l hl => q l _ hl (same_new hl) upd_same⟩⟩
def oDictD : List V → Hp → VK → Prop := fun xs H Q => ∃ (a : Addr) (kvs : List (Key × V)), xs = [.ref a] ∧ Rd H a (.dK kvs) ∧ ∀ p, H p = none → Q (.ref p) (upd H p (.dK kvs))

def oDictT : List V → Hp → VK → Prop := fun xs H Q => ∃ (a : Addr) (kvs : List (List Key × V)), xs = [.ref a] ∧ H a = some (.dT kvs) ∧ kvs.length ≤ 1 ∧ ∀ p, H p = none → Q (.ref p) (upd H p (.dT kvs))
theorem r_dictT {H : Hp} {Q : VK} {a : Addr} {kvs : List (List Key × V)} (h : H a = some (.dT kvs)) (one : kvs.length ≤ 1) (q : ∀ l H', H l = none → Same H H' → H' l = some (.dT kvs) → Q (.ref l) H') : oDictT [.ref a] H Q :=
  ⟨a, kvs, rfl, h, one, fun l hl => q l _ hl (same_new hl) upd_same⟩
section
variable {X : Cx}
theorem kt_each {P : Program} {w : World} {H : Hp} {h : Heap} (ok : HOk P w H h) : ∀ {kvs : List (List Key × V)} {xs : List (List Key × Addr × Value)}, KT H kvs xs → ∀ x ∈ xs, (tupleKind (mixKind P w)).is h x.1 x.2.1
  | _, _, .nil, x, hx => nomatch hx
  | _, _, .cons (b := q) hq t, x, hx => by
    rcases List.mem_cons.mp hx with e | hx
    · subst e
      exact key_of ok (by rw [← hq.1]; exact hq.2.1)
    · exact kt_each ok t x hx
theorem call_dictT (hu : X.A.units + 64 < cLine) : CallR X (.type "dict") oDictT := by
  intro pins s σ H xs us Q I r q
  obtain ⟨a, kvs, rfl, hd, one, q⟩ := q
  obtain ⟨u, rfl, rx⟩ := vals1 r
  cases rx
  obtain ⟨z, lo, ys, rel, dd⟩ := dt_of I.hok hd
  have each := kt_each I.hok rel
  have n0 : H s.heap.objs.size = none := I.hok.fresh (Nat.le_refl _)
  refine ct_call_dictH (knd := tupleKind (mixKind X.prog X.w)) (tupleKind_room_in1 (A := X.A.in1) (by show X.A.units + 1 + 1 < cLine; omega)) lo dd (fun x hx => ?_) (fun x hx => ?_) (by rw [← Paired.length rel]; exact one) fun h' d' hs => ?_
  · obtain ⟨o, its, n, h1, h2, h3, h4⟩ := each x hx
    exact ⟨o, its, n, Heap.get?_push_of_some _ h1, h2, h3, h4⟩
  · obtain ⟨o, its, n, h1, h2, h3, h4⟩ := each x hx
    exact ⟨o, h1, h2⟩
  · have hm : (s.heap.objs.size == sysModules) = false := beq_eq_false_iff_ne.mpr (Nat.ne_of_gt I.big)
    have rel' : KT (upd H s.heap.objs.size (.dT kvs)) kvs ys := KT.keeps rel fun b us e => (upd_ne (ne_of_none e n0)).trans e
    obtain ⟨o, es, ep, h1, h2, h3, h4, h5, h6⟩ := d'
    exact ⟨.ref s.heap.objs.size, upd H s.heap.objs.size (.dT kvs), I.laid (t' := s.toks) (fun b u e => (hs.2 b (Nat.ne_of_lt (Heap.lt_size e))).trans (Heap.get?_push_of_some _ e)) (Nat.le_refl _)
      (show ObjOk X.prog X.w _ _ _ (.dT kvs) from ⟨z, hm, ys, rel', o, es, ep, h1, h2, h3, h4, h6⟩), rfl, q _ n0⟩
end
/-! ### sorted([x]) -/
def rSorted1 (K : PySem.W.Frag) : List V → Hp → VK → Prop := fun vs H Q => ∃ (a : Addr) (x y : V) (d : PyData) (ds : List PyData) (p : Addr), vs = [.ref a] ∧ H a = some (.lst [x]) ∧ Dp K H x (.tuple (d :: ds)) ∧ PySem.W.alike (.tuple (d :: ds)) (.tuple (d :: ds)) = true ∧ (PyData.tuple (d :: ds)).depth ≤ 60 ∧
  ∀ p, H p = none → Q (.ref p) (upd H p (.lst [x]))
theorem cr_sorted1 {X : Cx} (hu : X.A.units + 64 < cLine) : CallR X (.builtin "sorted") (rSorted1 X.K) := by
  intro pins s σ H vs us Q I r h
  obtain ⟨a, x, _, d, ds, _, rfl, hs, dp, hal, dpt, q⟩ := h
  obtain ⟨its, rv, hl, hz⟩ := I.list (.of hs)
  rw [Vals.ref1 r]
  obtain ⟨u, rfl, ru⟩ := vals1 rv
  have e : PySem.W.EachIs (fun (v : Value) (b : PyData) => RelV x v ∧ b = .tuple (d :: ds)) [u] [PyData.tuple (d :: ds)] := .cons ⟨ru, rfl⟩ .nil
  have er : PySem.W.EachIs (fun v b => ∃ as, Reads s.heap v b as) [u] [PyData.tuple (d :: ds)] := .cons (Dp.reads I _ _ _ dp ru) .nil
  refine PySem.W.sorted_data (bs := [PyData.tuple (d :: ds)]) (enc := fun d => d) hl.isList e er (fun b hb c hc => ?_) (.inl fun b hb => ?_) (by show (1 : Nat) ≤ 16777216; decide) (fun b hb => ?_) fun out ol eo => ?_
  · rw [List.map_id'] at hb hc
    rw [List.mem_singleton.mp hb, List.mem_singleton.mp hc]
    exact hal
  · rw [List.map_id'] at hb
    exact ⟨d, ds, List.mem_singleton.mp hb⟩
  · rw [List.mem_singleton.mp hb]
    omega
  · rw [List.mergeSort_singleton] at eo
    obtain ⟨v, rfl⟩ : ∃ v, out = [v] := by
      match out, ol with
      | [v], _ => exact ⟨v, rfl⟩
    cases eo with
    | cons z _ =>
      obtain ⟨ep, he'⟩ := PyProof.Rows.sortedAll_at s.heap [u] [v].toArray
      exact ⟨.ref _, upd H (s.heap.objs.size + 1) (.lst [x]), I.laid (t' := s.toks) (fun _ _ => PyProof.Rows.sortedAll_old) (Nat.le_succ _) ⟨by show (1 : Nat) ≤ 16777216; decide, [v], ep, .cons z.1 .nil, by simpa using he'⟩, rfl, q _ (I.hok.fresh (Nat.le_succ _))⟩
theorem r_sorted1 {K : PySem.W.Frag} {H : Hp} {Q : VK} {a : Addr} {x : V} {d : PyData} {ds : List PyData} (h : H a = some (.lst [x])) (dp : Dp K H x (.tuple (d :: ds))) (al : PySem.W.alike (.tuple (d :: ds)) (.tuple (d :: ds)) = true) (dt : (PyData.tuple (d :: ds)).depth ≤ 60)
    (q : ∀ p H', H p = none → Same H H' → H' p = some (.lst [x]) → Q (.ref p) H') : rSorted1 K [.ref a] H Q := ⟨a, x, x, d, ds, a, rfl, h, dp, al, dt, fun p hp => q p _ hp (same_new hp) upd_same⟩
/-! ### walks -/
section
variable {K : PySem.W.Frag} {σ : L2.St} {H : Hp} {Q : VK} {D : Ends} {d : Addr} {kvs : List (List Key × V)} {t : TE} {ts : TS} {od : Obj}
theorem r_lockT (h : H d = some (.dT kvs)) (q : ∀ od H1, H1 d = some (.frz od (.dT kvs)) → (∀ b o, b ≠ d → H b = some o → H1 b = some o) → (∀ H', Same H1 H' → Same H (upd H' d (.dT kvs))) → t σ H1 fun v H' => H' d = some (.frz od (.dT kvs)) ∧ Q v (upd H' d (.dT kvs))) : tLockE t σ H Q :=
  ⟨d, _, h, by trivial, fun od => q od _ upd_same (fun b o ne e => by rw [upd_ne ne]; exact e) fun H' s b o e => by
    by_cases ne : b = d
    · subst ne
      rw [h] at e
      rw [upd_same, e]
    · rw [upd_ne ne]
      exact s b o (by rw [upd_ne ne]; exact e)⟩
theorem r_lockTS (h : H d = some (.dT kvs)) (q : ∀ od H1, H1 d = some (.frz od (.dT kvs)) → (∀ b o, b ≠ d → H b = some o → H1 b = some o) → (∀ H', Same H1 H' → Same H (upd H' d (.dT kvs))) →
    ts ⟨fun σ' H' => H' d = some (.frz od (.dT kvs)) ∧ D.nx σ' (upd H' d (.dT kvs)), fun v H' => H' d = some (.frz od (.dT kvs)) ∧ D.rt v (upd H' d (.dT kvs)), fun σ' H' => H' d = some (.frz od (.dT kvs)) ∧ D.bk σ' (upd H' d (.dT kvs)), fun σ' H' => H' d = some (.frz od (.dT kvs)) ∧ D.ct σ' (upd H' d (.dT kvs))⟩ σ H1) : tLock ts D σ H :=
  ⟨d, _, h, by trivial, fun od => q od _ upd_same (fun b o ne e => by rw [upd_ne ne]; exact e) fun H' s b o e => by
    by_cases ne : b = d
    · subst ne
      rw [h] at e
      rw [upd_same, e]
    · rw [upd_ne ne]
      exact s b o (by rw [upd_ne ne]; exact e)⟩
end
section
variable {β : Type} {a : Addr} {od : Obj} {kvs : List (List Key × V)} {g : TG} {tt : TT} {te : TE} {vs : List Nat} {σ : L2.St} {H1 : Hp} {D : Addr} {Qd : Hp → Prop}
theorem lc_keysT (R : Hp → V → β → Prop) (ys : List (Option β)) (hD : H1 D = none) (ha : H1 a = some (.frz od (.dT kvs))) (hl : kvs.length = ys.length) (hz : ys.length < sizeLine) (mono : ∀ H H' v b, Same H H' → R H v b → R H' v b)
    (hs : ∀ (i : Nat) (k : List Key) (v : V) (q : Addr) (o : Option β) (H : Hp), kvs[i]? = some (k, v) → ys[i]? = some o → H q = some (.tup (k.map kV)) → Same H1 H → (∃ acc, H D = some (.lst acc)) → CP.Turn g tt te vs σ R D H (.ref q) o)
    (hd : ∀ H acc, Same H1 H → H D = some (.lst acc) → Paired (R H) acc (ys.filterMap id) → Qd H) :
    ∃ W : Nat → Nat → Hp → Prop, (∃ m, W 0 m (upd H1 D (.lst []))) ∧ ∀ i m H, W i m H →
      ((Itkt a od kvs).stop i H ∧ Qd H) ∨ ((Itkt a od kvs).go i H ∧ ∃ Nx : Hp → Prop, (∀ H', Nx H' → ∃ m', m' < m ∧ W (i + 1) m' H') ∧ ∀ x H', (Itkt a od kvs).yld i H x H' → g x (wipe σ vs) H' fun σ2 H2 => wipe σ2 vs = wipe σ vs ∧ tt σ2 H2 fun b H3 =>
        if b = true then te σ2 H3 fun y H4 => ∃ acc, H4 D = some (.lst acc) ∧ acc.length < sizeLine ∧ Nx (upd H4 D (.lst (acc ++ [y]))) else Nx H3) := by
  refine ⟨fun i m H => m = ys.length - i ∧ i ≤ ys.length ∧ Acc R H1 D ys i H, ⟨ys.length, by simp, Nat.zero_le _, acc_zero hD⟩, ?_⟩
  rintro i m H ⟨rfl, hi, p⟩
  have q := CP.Same.to p.1 ha
  by_cases lt : i < ys.length
  · refine .inr ⟨⟨q, by omega⟩, Acc R H1 D ys (i + 1), fun H' p' => ⟨ys.length - (i + 1), by omega, rfl, lt, p'⟩, fun x H' y => ?_⟩
    obtain ⟨rfl, k, v, b, hk, rfl, hb⟩ := y
    exact turn_of mono hD hz p (List.getElem?_eq_getElem lt) (hs i k v b _ _ hk (List.getElem?_eq_getElem lt) hb p.1 (p.2.imp fun _ z => z.1))
  · have e : i = ys.length := by omega
    subst e
    obtain ⟨s, acc, e, pr⟩ := acc_end mono p
    exact .inl ⟨⟨q, by omega⟩, hd H acc s e pr⟩
end
/-! ### with o() as x -/
def tWith (C : Addr) (spE spX : Sp) (i : Nat) (ta : TE) (tb : TS) : TS := fun D σ H => ta σ H fun x H1 => ∃ a dx fs, x = .ref a ∧ H1 a = some (.ins C dx fs) ∧
  spE [.ref a] H1 (fun v H2 => tb ⟨fun σ' H3 => spX [.ref a, .non, .non, .non] H3 (fun _ H4 => D.nx σ' H4) E0, fun r H3 => spX [.ref a, .non, .non, .non] H3 (fun _ H4 => D.rt r H4) E0,
    fun σ' H3 => spX [.ref a, .non, .non, .non] H3 (fun _ H4 => D.bk σ' H4) E0, fun σ' H3 => spX [.ref a, .non, .non, .non] H3 (fun _ H4 => D.ct σ' H4) E0⟩ (σ.set i (some v)) H2) E0
section
variable {X : Cx} {k : Nat} {C f fe fx : Addr} {fd fdE fdX : FuncData} {ps psE psX : List Str} {sp spE spX : Sp} {i : Nat} {y : Str}
theorem fn_callV {pins : List (Addr × Obj)} {σ : L2.St} {H : Hp} {s : Shared} {Q : VK} {E : XK} {us : List Value} {vs : List V} (F : FnOk X.prog X.w X.K X.mg X.base CX0 k f fd ps sp) (hr : Room k X.A) (hb : Binds X.K fd ps []) (I : Inv X pins σ H s) (r : Vals vs us) (h : sp vs H Q E) :
    wpAny (model X.prog X.w) X.A (call (.ref f) us) (EP X pins σ Q) X.xe s := by
  have hl : (us ++ []).length = ps.length := by
    rw [← F.len _ _ _ _ h, List.append_nil, r.length]
  have b := hb s us I.kIn hl
  rw [List.append_nil] at b
  refine wpAny_call (codeAny_mono (F.run X.A X.stack s H ⟨us, []⟩ us vs Q E hr I.env0 b r h) fun r s' hq => ?_)
  cases r with
  | error e => exact (show False from hq).elim
  | ok fl =>
    cases fl with
    | ret u => exact I.after hq
    | next => exact False.elim hq
    | brk => exact False.elim hq
    | cont => exact False.elim hq
theorem ps_with {ctx : Expr} {py pos : Pos} {body : List Stmt} {ta : TE} {tb : TS} (he : PE X ctx ta) (hE : Meth X.K C "__enter__" fe) (hX : Meth X.K C "__exit__" fx) (FE : FnOk X.prog X.w X.K X.mg X.base CX0 k fe fdE psE spE)
    (FX : FnOk X.prog X.w X.K X.mg X.base CX0 k fx fdX psX spX) (hr : Room k X.A) (bE : Binds X.K fdE psE []) (bX : Binds X.K fdX psX []) (hN : X.N.Nodup) (hi : X.N[i]? = some y) (hx : Loc X.env.scope y) (hxe : ∀ e s, X.xe e s → False) (hb : PSs X body tb)
    (hf : X.fn y = true ∨ X.env.scope.names.lookup y = some .local := by first | exact .inl rfl | exact .inr rfl | assumption) : PS X (.With [⟨ctx, some (.Name y py)⟩] body pos) (tWith C spE spX i ta tb) := by
  refine ⟨fun pins s σ H D I h => ?_⟩
  refine PySem.W.kw_execN (thn (he.run pins s σ H _ I h) fun u s1 ⟨x, H1, I1, rx, a, dx, fs, ex, ea, q⟩ => ?_)
  subst ex
  obtain rfl : u = Value.ref a := rx
  obtain ⟨mA, O, _, _, _, _⟩ := ins_get I1.hok ea
  obtain ⟨od, J, _⟩ := O.look
  have no : ∀ e s, X.xe e s → (fun (_ : Value) (_ : Shared) => False) e s := fun e s z => hxe e s z
  refine PySem.W.kw_core (b := assign (.Name y py) X.env) I1.kIn J hE.at_ hE.fn hX.at_ hX.fn ?_
  refine thn (fn_callV (vs := [V.ref a]) FE hr bE I1 (.cons rfl .nil) q) fun v s2 ⟨z, H2, I2, rz, q2⟩ => ?_
  refine wpAny_assign_Name (store_ok I2 hN hi hx rz (fun s3 I3 => ?_) hf)
  refine wpAny_mono (hb.run pins s3 _ H2 _ I3 q2) (fun fl s4 hs => ?_) no
  have r4 : Vals [V.ref a, V.non, V.non, V.non] [Value.ref a, .none, .none, .none] := .cons rfl (.cons rfl (.cons rfl (.cons rfl .nil)))
  cases fl with
  | next =>
    obtain ⟨σ', H', J', q3⟩ := hs
    exact thn (fn_callV FX hr bX J' r4 q3) fun _ s5 ⟨_, H4, J4, _, q4⟩ => ⟨σ', H4, J4, q4⟩
  | brk =>
    obtain ⟨σ', H', J', q3⟩ := hs
    exact thn (fn_callV FX hr bX J' r4 q3) fun _ s5 ⟨_, H4, J4, _, q4⟩ => ⟨σ', H4, J4, q4⟩
  | cont =>
    obtain ⟨σ', H', J', q3⟩ := hs
    exact thn (fn_callV FX hr bX J' r4 q3) fun _ s5 ⟨_, H4, J4, _, q4⟩ => ⟨σ', H4, J4, q4⟩
  | ret r =>
    obtain ⟨w, σ', H', J', rw', q3⟩ := hs
    exact thn (fn_callV FX hr bX J' r4 q3) fun _ s5 ⟨_, H4, J4, _, q4⟩ => ⟨w, σ', H4, J4, rw', q4⟩
end
section
variable {σ : L2.St} {H : Hp} {Q : VK} {D : Ends} {C : Addr} {spE spX sp : Sp} {i : Nat} {ta : TE} {tb : TS} {dvs : List V} {E : XK}
theorem r_with (q : ta σ H fun x H1 => ∃ a dx fs, x = .ref a ∧ H1 a = some (.ins C dx fs) ∧
  spE [.ref a] H1 (fun v H2 => tb ⟨fun σ' H3 => spX [.ref a, .non, .non, .non] H3 (fun _ H4 => D.nx σ' H4) E0, fun r H3 => spX [.ref a, .non, .non, .non] H3 (fun _ H4 => D.rt r H4) E0,
    fun σ' H3 => spX [.ref a, .non, .non, .non] H3 (fun _ H4 => D.bk σ' H4) E0, fun σ' H3 => spX [.ref a, .non, .non, .non] H3 (fun _ H4 => D.ct σ' H4) E0⟩ (σ.set i (some v)) H2) E0) : tWith C spE spX i ta tb D σ H := q
theorem r_prop (q : ta σ H fun x H1 => ∃ a dx fs, x = .ref a ∧ H1 a = some (.ins C dx fs) ∧ sp (.ref a :: dvs) H1 Q E) : tProp C sp dvs E ta σ H Q := q
end
end CP
namespace CP
theorem caps_nil {X : L2.Cx} : NdefX.Caps X [] [] [] := ⟨fun _ _ e => (by cases e), fun _ h => (List.not_mem_nil h).elim, fun _ h => (List.not_mem_nil h).elim, rfl⟩
end CP

namespace CP
open PySem L2
def top (i : Nat) : Stmt := PySem.Challenge.pw_cellplaces_k87_stores_by_name.main.body.getD i (.Pass ⟨0, 0, 0, 0⟩)
abbrev s_is_whole : Stmt := top 13
abbrev s_is_count : Stmt := top 14
abbrev s_is_letter : Stmt := top 15
abbrev s_are_values : Stmt := top 16
abbrev s_check_sizes : Stmt := top 18
abbrev s_are_letters : Stmt := top 20
abbrev s_are_named : Stmt := top 21
abbrev s_are_sides : Stmt := top 22
abbrev s_valued : Stmt := top 23
abbrev s_rest_of : Stmt := top 24
abbrev s_Plain___init : Stmt := inClass (top 25) 0
abbrev s_Plain_sizes : Stmt := inClass (top 25) 2
abbrev s_Plain___eq : Stmt := inClass (top 25) 5
abbrev s_check_table : Stmt := top 26
abbrev s_is_ahead : Stmt := top 27
abbrev s_ordered : Stmt := top 28
abbrev s_check_own : Stmt := top 29
abbrev s_Store___init : Stmt := inClass (top 31) 0
abbrev s_Store_room : Stmt := inClass (top 31) 1
abbrev s_Store_limit : Stmt := inClass (top 31) 3
abbrev s_Store_spot_of : Stmt := inClass (top 31) 4
abbrev s_Store_check_cell : Stmt := inClass (top 31) 5
abbrev s_Store_check_room : Stmt := inClass (top 31) 6
abbrev s_Store_change : Stmt := inClass (top 31) 7
abbrev s_Store_lay : Stmt := inClass (top 31) 8
abbrev s_Store_look : Stmt := inClass (top 31) 9
abbrev s_Store_take : Stmt := inClass (top 31) 10
abbrev s_Store___len : Stmt := inClass (top 31) 11
abbrev s_Store_held : Stmt := inClass (top 31) 13
abbrev s_Store_grow : Stmt := inClass (top 31) 14
abbrev s_Store_trial : Stmt := inClass (top 31) 17
abbrev s_Store_attempt : Stmt := inClass (top 31) 18
abbrev s_Trial___init : Stmt := inClass (top 32) 0
abbrev s_Trial___enter : Stmt := inClass (top 32) 1
abbrev s_Trial___exit : Stmt := inClass (top 32) 2
abbrev s_law : Stmt := top 34
theorem sc_is_whole : FnScope ["value"] ["value"] (defScope s_is_whole) := ⟨rfl, rfl, rfl, by decide +kernel, rfl, by decide +kernel, by decide +kernel⟩
theorem sc_is_count : FnScope ["value"] ["value"] (defScope s_is_count) := ⟨rfl, rfl, rfl, by decide +kernel, rfl, by decide +kernel, by decide +kernel⟩
theorem sc_is_letter : FnScope ["value", "sign"] ["value"] (defScope s_is_letter) := ⟨rfl, rfl, rfl, by decide +kernel, rfl, by decide +kernel, by decide +kernel⟩
theorem sc_are_values : FnScope ["value", "name"] ["value"] (defScope s_are_values) := ⟨rfl, rfl, rfl, by decide +kernel, rfl, by decide +kernel, by decide +kernel⟩
theorem sc_check_sizes : FnScope ["names", "values", "name"] ["names", "values"] (defScope s_check_sizes) := ⟨rfl, rfl, rfl, by decide +kernel, rfl, by decide +kernel, by decide +kernel⟩
theorem sc_are_letters : FnScope ["value", "one"] ["value"] (defScope s_are_letters) := ⟨rfl, rfl, rfl, by decide +kernel, rfl, by decide +kernel, by decide +kernel⟩
theorem sc_are_named : FnScope ["value", "names", "side", "part"] ["value"] (defScope s_are_named) := ⟨rfl, rfl, rfl, by decide +kernel, rfl, by decide +kernel, by decide +kernel⟩
theorem sc_are_sides : FnScope ["value", "parts", "side", "names", "part", "one"] ["value", "parts"] (defScope s_are_sides) := ⟨rfl, rfl, rfl, by decide +kernel, rfl, by decide +kernel, by decide +kernel⟩
theorem sc_valued : FnScope ["letters", "values", "found", "name"] ["letters", "values"] (defScope s_valued) := ⟨rfl, rfl, rfl, by decide +kernel, rfl, by decide +kernel, by decide +kernel⟩
theorem sc_rest_of : FnScope ["letters", "others", "left", "name"] ["letters", "others"] (defScope s_rest_of) := ⟨rfl, rfl, rfl, by decide +kernel, rfl, by decide +kernel, by decide +kernel⟩
theorem sc_Plain___init : FnScope ["self", "sides", "name", "size", "step"] ["self", "sides"] (defScope s_Plain___init) := ⟨rfl, rfl, rfl, by decide +kernel, rfl, by decide +kernel, by decide +kernel⟩
theorem sc_Plain_sizes : FnScope ["self", "found", "name", "size", "step", "one"] ["self"] (defScope s_Plain_sizes) := ⟨rfl, rfl, rfl, by decide +kernel, rfl, by decide +kernel, by decide +kernel⟩
theorem sc_check_table : FnScope ["table"] ["table"] (defScope s_check_table) := ⟨rfl, rfl, rfl, by decide +kernel, rfl, by decide +kernel, by decide +kernel⟩
theorem sc_is_ahead : FnScope ["one", "other"] ["one", "other"] (defScope s_is_ahead) := ⟨rfl, rfl, rfl, by decide +kernel, rfl, by decide +kernel, by decide +kernel⟩
theorem sc_ordered : FnScope ["table", "found", "side", "at", "one", "wrong"] ["table"] (defScope s_ordered) := ⟨rfl, rfl, rfl, by decide +kernel, rfl, by decide +kernel, by decide +kernel⟩
theorem sc_check_own : FnScope ["table", "found"] ["table"] (defScope s_check_own) := ⟨rfl, rfl, rfl, by decide +kernel, rfl, by decide +kernel, by decide +kernel⟩
theorem sc_Store___init : FnScope ["self", "table", "values", "name"] ["self", "table", "values"] (defScope s_Store___init) := ⟨rfl, rfl, rfl, by decide +kernel, rfl, by decide +kernel, by decide +kernel⟩
theorem sc_Store_room : FnScope ["self"] ["self"] (defScope s_Store_room) := ⟨rfl, rfl, rfl, by decide +kernel, rfl, by decide +kernel, by decide +kernel⟩
theorem sc_Store_limit : FnScope ["self", "room"] ["self", "room"] (defScope s_Store_limit) := ⟨rfl, rfl, rfl, by decide +kernel, rfl, by decide +kernel, by decide +kernel⟩
theorem sc_Store_spot_of : FnScope ["self", "values", "cell", "index", "side"] ["self", "values", "cell"] (defScope s_Store_spot_of) := ⟨rfl, rfl, rfl, by decide +kernel, rfl, by decide +kernel, by decide +kernel⟩
theorem sc_Store_check_cell : FnScope ["self", "cell", "index", "side"] ["self", "cell"] (defScope s_Store_check_cell) := ⟨rfl, rfl, rfl, by decide +kernel, rfl, by decide +kernel, by decide +kernel⟩
theorem sc_Store_check_room : FnScope ["self", "place"] ["self", "place"] (defScope s_Store_check_room) := ⟨rfl, rfl, rfl, by decide +kernel, rfl, by decide +kernel, by decide +kernel⟩
theorem sc_Store_change : FnScope ["self", "values", "laid"] ["self", "values", "laid"] (defScope s_Store_change) := ⟨rfl, rfl, rfl, by decide +kernel, rfl, by decide +kernel, by decide +kernel⟩
theorem sc_Store_lay : FnScope ["self", "cell", "item", "values", "laid", "place", "later"] ["self", "cell", "item"] (defScope s_Store_lay) := ⟨rfl, rfl, rfl, by decide +kernel, rfl, by decide +kernel, by decide +kernel⟩
theorem sc_Store_look : FnScope ["self", "cell"] ["self", "cell"] (defScope s_Store_look) := ⟨rfl, rfl, rfl, by decide +kernel, rfl, by decide +kernel, by decide +kernel⟩
theorem sc_Store_take : FnScope ["self", "cell", "values", "laid", "later", "item"] ["self", "cell"] (defScope s_Store_take) := ⟨rfl, rfl, rfl, by decide +kernel, rfl, by decide +kernel, by decide +kernel⟩
theorem sc_Store___len : FnScope ["self"] ["self"] (defScope s_Store___len) := ⟨rfl, rfl, rfl, by decide +kernel, rfl, by decide +kernel, by decide +kernel⟩
theorem sc_Store_held : FnScope ["self", "values", "laid", "places", "cell", "place"] ["self"] (defScope s_Store_held) := ⟨rfl, rfl, rfl, by decide +kernel, rfl, by decide +kernel, by decide +kernel⟩
theorem sc_Store_grow : FnScope ["self", "size", "values", "laid", "later", "places", "cell", "before", "place"] ["self", "size"] (defScope s_Store_grow) := ⟨rfl, rfl, rfl, by decide +kernel, rfl, by decide +kernel, by decide +kernel⟩
theorem sc_Store_trial : FnScope ["self"] ["self"] (defScope s_Store_trial) := ⟨rfl, rfl, rfl, by decide +kernel, rfl, by decide +kernel, by decide +kernel⟩
theorem sc_Store_attempt : FnScope ["self", "action", "same"] ["self", "action"] (defScope s_Store_attempt) := ⟨rfl, rfl, rfl, by decide +kernel, rfl, by decide +kernel, by decide +kernel⟩
theorem sc_Trial___init : FnScope ["self", "store"] ["self", "store"] (defScope s_Trial___init) := ⟨rfl, rfl, rfl, by decide +kernel, rfl, by decide +kernel, by decide +kernel⟩
theorem sc_Trial___enter : FnScope ["self", "store"] ["self"] (defScope s_Trial___enter) := ⟨rfl, rfl, rfl, by decide +kernel, rfl, by decide +kernel, by decide +kernel⟩
theorem sc_Trial___exit : FnScope ["self", "kind", "value", "trace"] ["self", "kind", "value", "trace"] (defScope s_Trial___exit) := ⟨rfl, rfl, rfl, by decide +kernel, rfl, by decide +kernel, by decide +kernel⟩
theorem sc_law : FnScope ["_law_script", "_law_at", "_law_number_here", "_law_high", "_law_wide", "_law_board", "_law_shelf", "_law_action"] ["_law_script"] (defScope s_law) := ⟨rfl, rfl, rfl, by decide +kernel, rfl, by decide +kernel, by decide +kernel⟩
abbrev c_SMALL : V := .str "abcdefghijklmnopqrstuvwxyz"
set_option genSizeOf false in
set_option genInjectivity false in
structure Txt (K : PySem.W.Frag) (mg : Str → Option Value) where
  a_is_whole : Addr
  fd_is_whole : FuncData
  F_is_whole : Fun K "is_whole" "is_whole" s_is_whole a_is_whole fd_is_whole
  m_is_whole : mg "is_whole" = some (.ref a_is_whole)
  a_is_count : Addr
  fd_is_count : FuncData
  F_is_count : Fun K "is_count" "is_count" s_is_count a_is_count fd_is_count
  m_is_count : mg "is_count" = some (.ref a_is_count)
  a_is_letter : Addr
  fd_is_letter : FuncData
  F_is_letter : Fun K "is_letter" "is_letter" s_is_letter a_is_letter fd_is_letter
  m_is_letter : mg "is_letter" = some (.ref a_is_letter)
  a_are_values : Addr
  fd_are_values : FuncData
  F_are_values : Fun K "are_values" "are_values" s_are_values a_are_values fd_are_values
  m_are_values : mg "are_values" = some (.ref a_are_values)
  a_check_sizes : Addr
  fd_check_sizes : FuncData
  F_check_sizes : Fun K "check_sizes" "check_sizes" s_check_sizes a_check_sizes fd_check_sizes
  m_check_sizes : mg "check_sizes" = some (.ref a_check_sizes)
  a_are_letters : Addr
  fd_are_letters : FuncData
  F_are_letters : Fun K "are_letters" "are_letters" s_are_letters a_are_letters fd_are_letters
  m_are_letters : mg "are_letters" = some (.ref a_are_letters)
  a_are_named : Addr
  fd_are_named : FuncData
  F_are_named : Fun K "are_named" "are_named" s_are_named a_are_named fd_are_named
  m_are_named : mg "are_named" = some (.ref a_are_named)
  a_are_sides : Addr
  fd_are_sides : FuncData
  F_are_sides : Fun K "are_sides" "are_sides" s_are_sides a_are_sides fd_are_sides
  m_are_sides : mg "are_sides" = some (.ref a_are_sides)
  a_valued : Addr
  fd_valued : FuncData
  F_valued : Fun K "valued" "valued" s_valued a_valued fd_valued
  m_valued : mg "valued" = some (.ref a_valued)
  a_rest_of : Addr
  fd_rest_of : FuncData
  F_rest_of : Fun K "rest_of" "rest_of" s_rest_of a_rest_of fd_rest_of
  m_rest_of : mg "rest_of" = some (.ref a_rest_of)
  a_Plain___init : Addr
  fd_Plain___init : FuncData
  F_Plain___init : Fun K "__init__" "Plain.__init__" s_Plain___init a_Plain___init fd_Plain___init
  a_Plain_sizes : Addr
  fd_Plain_sizes : FuncData
  F_Plain_sizes : Fun K "sizes" "Plain.sizes" s_Plain_sizes a_Plain_sizes fd_Plain_sizes
  a_Plain___eq : Addr
  fd_Plain___eq : FuncData
  F_Plain___eq : Fun K "__eq__" "Plain.__eq__" s_Plain___eq a_Plain___eq fd_Plain___eq
  a_check_table : Addr
  fd_check_table : FuncData
  F_check_table : Fun K "check_table" "check_table" s_check_table a_check_table fd_check_table
  m_check_table : mg "check_table" = some (.ref a_check_table)
  a_is_ahead : Addr
  fd_is_ahead : FuncData
  F_is_ahead : Fun K "is_ahead" "is_ahead" s_is_ahead a_is_ahead fd_is_ahead
  m_is_ahead : mg "is_ahead" = some (.ref a_is_ahead)
  a_ordered : Addr
  fd_ordered : FuncData
  F_ordered : Fun K "ordered" "ordered" s_ordered a_ordered fd_ordered
  m_ordered : mg "ordered" = some (.ref a_ordered)
  a_check_own : Addr
  fd_check_own : FuncData
  F_check_own : Fun K "check_own" "check_own" s_check_own a_check_own fd_check_own
  m_check_own : mg "check_own" = some (.ref a_check_own)
  a_Store___init : Addr
  fd_Store___init : FuncData
  F_Store___init : Fun K "__init__" "Store.__init__" s_Store___init a_Store___init fd_Store___init
  a_Store_room : Addr
  fd_Store_room : FuncData
  F_Store_room : Fun K "room" "Store.room" s_Store_room a_Store_room fd_Store_room
  a_Store_limit : Addr
  fd_Store_limit : FuncData
  F_Store_limit : Fun K "limit" "Store.limit" s_Store_limit a_Store_limit fd_Store_limit
  a_Store_spot_of : Addr
  fd_Store_spot_of : FuncData
  F_Store_spot_of : Fun K "spot_of" "Store.spot_of" s_Store_spot_of a_Store_spot_of fd_Store_spot_of
  a_Store_check_cell : Addr
  fd_Store_check_cell : FuncData
  F_Store_check_cell : Fun K "check_cell" "Store.check_cell" s_Store_check_cell a_Store_check_cell fd_Store_check_cell
  a_Store_check_room : Addr
  fd_Store_check_room : FuncData
  F_Store_check_room : Fun K "check_room" "Store.check_room" s_Store_check_room a_Store_check_room fd_Store_check_room
  a_Store_change : Addr
  fd_Store_change : FuncData
  F_Store_change : Fun K "change" "Store.change" s_Store_change a_Store_change fd_Store_change
  a_Store_lay : Addr
  fd_Store_lay : FuncData
  F_Store_lay : Fun K "lay" "Store.lay" s_Store_lay a_Store_lay fd_Store_lay
  a_Store_look : Addr
  fd_Store_look : FuncData
  F_Store_look : Fun K "look" "Store.look" s_Store_look a_Store_look fd_Store_look
  a_Store_take : Addr
  fd_Store_take : FuncData
  F_Store_take : Fun K "take" "Store.take" s_Store_take a_Store_take fd_Store_take
  a_Store___len : Addr
  fd_Store___len : FuncData
  F_Store___len : Fun K "__len__" "Store.__len__" s_Store___len a_Store___len fd_Store___len
  a_Store_held : Addr
  fd_Store_held : FuncData
  F_Store_held : Fun K "held" "Store.held" s_Store_held a_Store_held fd_Store_held
  a_Store_grow : Addr
  fd_Store_grow : FuncData
  F_Store_grow : Fun K "grow" "Store.grow" s_Store_grow a_Store_grow fd_Store_grow
  a_Store_trial : Addr
  fd_Store_trial : FuncData
  F_Store_trial : Fun K "trial" "Store.trial" s_Store_trial a_Store_trial fd_Store_trial
  a_Store_attempt : Addr
  fd_Store_attempt : FuncData
  F_Store_attempt : Fun K "attempt" "Store.attempt" s_Store_attempt a_Store_attempt fd_Store_attempt
  a_Trial___init : Addr
  fd_Trial___init : FuncData
  F_Trial___init : Fun K "__init__" "Trial.__init__" s_Trial___init a_Trial___init fd_Trial___init
  a_Trial___enter : Addr
  fd_Trial___enter : FuncData
  F_Trial___enter : Fun K "__enter__" "Trial.__enter__" s_Trial___enter a_Trial___enter fd_Trial___enter
  a_Trial___exit : Addr
  fd_Trial___exit : FuncData
  F_Trial___exit : Fun K "__exit__" "Trial.__exit__" s_Trial___exit a_Trial___exit fd_Trial___exit
  a_law : Addr
  fd_law : FuncData
  F_law : Fun K "law" "law" s_law a_law fd_law
  m_law : mg "law" = some (.ref a_law)
  a_Plain : Addr
  m_Plain : mg "Plain" = some (.ref a_Plain)
  c_Plain : Cls K a_Plain
  I_Plain : ClsI K a_Plain
  n_Plain_row : NoAttr K a_Plain "row"
  k_Plain : Mk K a_Plain a_Plain___init
  M_Plain_sizes : Meth K a_Plain "sizes" a_Plain_sizes
  M_Plain___eq : Meth K a_Plain "__eq__" a_Plain___eq
  O_Plain : OwnEq K a_Plain a_Plain___eq
  a_Store : Addr
  m_Store : mg "Store" = some (.ref a_Store)
  c_Store : Cls K a_Store
  I_Store : ClsI K a_Store
  n_Store_table : NoAttr K a_Store "table"
  n_Store_state : NoAttr K a_Store "state"
  n_Store_most : NoAttr K a_Store "most"
  n_Store_past : NoAttr K a_Store "past"
  k_Store : Mk K a_Store a_Store___init
  q_Store_room : Addr
  P_Store_room : PropOf K a_Store "room" q_Store_room a_Store_room
  M_Store_limit : Meth K a_Store "limit" a_Store_limit
  M_Store_spot_of : Meth K a_Store "spot_of" a_Store_spot_of
  M_Store_check_cell : Meth K a_Store "check_cell" a_Store_check_cell
  M_Store_check_room : Meth K a_Store "check_room" a_Store_check_room
  M_Store_change : Meth K a_Store "change" a_Store_change
  M_Store_lay : Meth K a_Store "lay" a_Store_lay
  M_Store_look : Meth K a_Store "look" a_Store_look
  M_Store_take : Meth K a_Store "take" a_Store_take
  M_Store___len : Meth K a_Store "__len__" a_Store___len
  M_Store_held : Meth K a_Store "held" a_Store_held
  M_Store_grow : Meth K a_Store "grow" a_Store_grow
  M_Store_trial : Meth K a_Store "trial" a_Store_trial
  M_Store_attempt : Meth K a_Store "attempt" a_Store_attempt
  a_Trial : Addr
  m_Trial : mg "Trial" = some (.ref a_Trial)
  c_Trial : Cls K a_Trial
  I_Trial : ClsI K a_Trial
  n_Trial_store : NoAttr K a_Trial "store"
  n_Trial_state : NoAttr K a_Trial "state"
  n_Trial_most : NoAttr K a_Trial "most"
  n_Trial_past : NoAttr K a_Trial "past"
  k_Trial : Mk K a_Trial a_Trial___init
  M_Trial___enter : Meth K a_Trial "__enter__" a_Trial___enter
  M_Trial___exit : Meth K a_Trial "__exit__" a_Trial___exit
  u_SMALL : Value
  m_SMALL : mg "SMALL" = some u_SMALL ∧ RelV c_SMALL u_SMALL
  n_bool : mg "bool" = none
  n_dict : mg "dict" = none
  n_int : mg "int" = none
  n_isinstance : mg "isinstance" = none
  n_len : mg "len" = none
  n_list : mg "list" = none
  n_max : mg "max" = none
  n_range : mg "range" = none
  n_set : mg "set" = none
  n_sorted : mg "sorted" = none
  n_str : mg "str" = none
  n_sum : mg "sum" = none
  n_tuple : mg "tuple" = none
  n_zip : mg "zip" = none
  tc : Addr
  tP : Addr
  tcode : LamP.CodeIs K a_law tc
variable {P : Program} {w : World} {K : PySem.W.Frag} {mg : Str → Option Value} {base : Heap}
theorem b_is_whole (T : Txt K mg) : Binds K T.fd_is_whole ["value"] [] := T.F_is_whole.binds (ps := ["value"]) fun _ _ _ _ _ _ us hl => match us, hl with | [_], _ => rfl
theorem b_is_count (T : Txt K mg) : Binds K T.fd_is_count ["value"] [] := T.F_is_count.binds (ps := ["value"]) fun _ _ _ _ _ _ us hl => match us, hl with | [_], _ => rfl
theorem b_is_letter (T : Txt K mg) : Binds K T.fd_is_letter ["value"] [] := T.F_is_letter.binds (ps := ["value"]) fun _ _ _ _ _ _ us hl => match us, hl with | [_], _ => rfl
theorem b_are_values (T : Txt K mg) : Binds K T.fd_are_values ["value"] [] := T.F_are_values.binds (ps := ["value"]) fun _ _ _ _ _ _ us hl => match us, hl with | [_], _ => rfl
theorem b_check_sizes (T : Txt K mg) : Binds K T.fd_check_sizes ["names", "values"] [] := T.F_check_sizes.binds (ps := ["names", "values"]) fun _ _ _ _ _ _ us hl => match us, hl with | [_, _], _ => rfl
theorem b_are_letters (T : Txt K mg) : Binds K T.fd_are_letters ["value"] [] := T.F_are_letters.binds (ps := ["value"]) fun _ _ _ _ _ _ us hl => match us, hl with | [_], _ => rfl
theorem b_are_named (T : Txt K mg) : Binds K T.fd_are_named ["value"] [] := T.F_are_named.binds (ps := ["value"]) fun _ _ _ _ _ _ us hl => match us, hl with | [_], _ => rfl
theorem b_are_sides (T : Txt K mg) : Binds K T.fd_are_sides ["value", "parts"] [] := T.F_are_sides.binds (ps := ["value", "parts"]) fun _ _ _ _ _ _ us hl => match us, hl with | [_, _], _ => rfl
theorem b_valued (T : Txt K mg) : Binds K T.fd_valued ["letters", "values"] [] := T.F_valued.binds (ps := ["letters", "values"]) fun _ _ _ _ _ _ us hl => match us, hl with | [_, _], _ => rfl
theorem b_rest_of (T : Txt K mg) : Binds K T.fd_rest_of ["letters", "others"] [] := T.F_rest_of.binds (ps := ["letters", "others"]) fun _ _ _ _ _ _ us hl => match us, hl with | [_, _], _ => rfl
theorem b_Plain___init (T : Txt K mg) : Binds K T.fd_Plain___init ["self", "sides"] [] := T.F_Plain___init.binds (ps := ["self", "sides"]) fun _ _ _ _ _ _ us hl => match us, hl with | [_, _], _ => rfl
theorem b_Plain_sizes (T : Txt K mg) : Binds K T.fd_Plain_sizes ["self"] [] := T.F_Plain_sizes.binds (ps := ["self"]) fun _ _ _ _ _ _ us hl => match us, hl with | [_], _ => rfl
theorem b_check_table (T : Txt K mg) : Binds K T.fd_check_table ["table"] [] := T.F_check_table.binds (ps := ["table"]) fun _ _ _ _ _ _ us hl => match us, hl with | [_], _ => rfl
theorem b_is_ahead (T : Txt K mg) : Binds K T.fd_is_ahead ["one", "other"] [] := T.F_is_ahead.binds (ps := ["one", "other"]) fun _ _ _ _ _ _ us hl => match us, hl with | [_, _], _ => rfl
theorem b_ordered (T : Txt K mg) : Binds K T.fd_ordered ["table"] [] := T.F_ordered.binds (ps := ["table"]) fun _ _ _ _ _ _ us hl => match us, hl with | [_], _ => rfl
theorem b_check_own (T : Txt K mg) : Binds K T.fd_check_own ["table"] [] := T.F_check_own.binds (ps := ["table"]) fun _ _ _ _ _ _ us hl => match us, hl with | [_], _ => rfl
theorem b_Store_room (T : Txt K mg) : Binds K T.fd_Store_room ["self"] [] := T.F_Store_room.binds (ps := ["self"]) fun _ _ _ _ _ _ us hl => match us, hl with | [_], _ => rfl
theorem b_Store_spot_of (T : Txt K mg) : Binds K T.fd_Store_spot_of ["self", "values", "cell"] [] := T.F_Store_spot_of.binds (ps := ["self", "values", "cell"]) fun _ _ _ _ _ _ us hl => match us, hl with | [_, _, _], _ => rfl
theorem b_Store_check_cell (T : Txt K mg) : Binds K T.fd_Store_check_cell ["self", "cell"] [] := T.F_Store_check_cell.binds (ps := ["self", "cell"]) fun _ _ _ _ _ _ us hl => match us, hl with | [_, _], _ => rfl
theorem b_Store_check_room (T : Txt K mg) : Binds K T.fd_Store_check_room ["self", "place"] [] := T.F_Store_check_room.binds (ps := ["self", "place"]) fun _ _ _ _ _ _ us hl => match us, hl with | [_, _], _ => rfl
theorem b_Store_change (T : Txt K mg) : Binds K T.fd_Store_change ["self", "values", "laid"] [] := T.F_Store_change.binds (ps := ["self", "values", "laid"]) fun _ _ _ _ _ _ us hl => match us, hl with | [_, _, _], _ => rfl
theorem b_Store___len (T : Txt K mg) : Binds K T.fd_Store___len ["self"] [] := T.F_Store___len.binds (ps := ["self"]) fun _ _ _ _ _ _ us hl => match us, hl with | [_], _ => rfl
theorem b_Store_held (T : Txt K mg) : Binds K T.fd_Store_held ["self"] [] := T.F_Store_held.binds (ps := ["self"]) fun _ _ _ _ _ _ us hl => match us, hl with | [_], _ => rfl
theorem b_Store_trial (T : Txt K mg) : Binds K T.fd_Store_trial ["self"] [] := T.F_Store_trial.binds (ps := ["self"]) fun _ _ _ _ _ _ us hl => match us, hl with | [_], _ => rfl
theorem b_Trial___init (T : Txt K mg) : Binds K T.fd_Trial___init ["self", "store"] [] := T.F_Trial___init.binds (ps := ["self", "store"]) fun _ _ _ _ _ _ us hl => match us, hl with | [_, _], _ => rfl
theorem b_Trial___enter (T : Txt K mg) : Binds K T.fd_Trial___enter ["self"] [] := T.F_Trial___enter.binds (ps := ["self"]) fun _ _ _ _ _ _ us hl => match us, hl with | [_], _ => rfl
theorem b_Trial___exit (T : Txt K mg) : Binds K T.fd_Trial___exit ["self", "kind", "value", "trace"] [] := T.F_Trial___exit.binds (ps := ["self", "kind", "value", "trace"]) fun _ _ _ _ _ _ us hl => match us, hl with | [_, _, _, _], _ => rfl
def pmm_Store_attempt_k1 : V → List V → List V | z, [x0] => [z, x0] | z, l => z :: l
def pwm_Store_attempt_k1 : Value → List Value → List Value | z, [x0] => [z, x0] | z, l => z :: l
theorem kbm_Store_attempt_k1 (T : Txt K mg) : KM1 K T.fd_Store_attempt ["self", "action"] ["action"] pwm_Store_attempt_k1 pmm_Store_attempt_k1 := Fun.km T.F_Store_attempt (fun _ _ _ _ _ _ u ws hl => match ws, hl with | [_], _ => rfl) fun {x u zs ws} rx r l => match zs, ws, r, l with | [_], [_], (.cons r0 .nil), _ => .cons rx (.cons r0 .nil)
def pmm_Store_grow_k1 : V → List V → List V | z, [x0] => [z, x0] | z, l => z :: l
def pwm_Store_grow_k1 : Value → List Value → List Value | z, [x0] => [z, x0] | z, l => z :: l
theorem kbm_Store_grow_k1 (T : Txt K mg) : KM1 K T.fd_Store_grow ["self", "size"] ["size"] pwm_Store_grow_k1 pmm_Store_grow_k1 := Fun.km T.F_Store_grow (fun _ _ _ _ _ _ u ws hl => match ws, hl with | [_], _ => rfl) fun {x u zs ws} rx r l => match zs, ws, r, l with | [_], [_], (.cons r0 .nil), _ => .cons rx (.cons r0 .nil)
def pmm_Store_lay_k21 : V → List V → List V | z, [x0, x1] => [z, x1, x0] | z, l => z :: l
def pwm_Store_lay_k21 : Value → List Value → List Value | z, [x0, x1] => [z, x1, x0] | z, l => z :: l
theorem kbm_Store_lay_k21 (T : Txt K mg) : KM1 K T.fd_Store_lay ["self", "cell", "item"] ["item", "cell"] pwm_Store_lay_k21 pmm_Store_lay_k21 := Fun.km T.F_Store_lay (fun _ _ _ _ _ _ u ws hl => match ws, hl with | [_, _], _ => rfl) fun {x u zs ws} rx r l => match zs, ws, r, l with | [_, _], [_, _], (.cons r0 (.cons r1 .nil)), _ => .cons rx (.cons r1 (.cons r0 .nil))
def pmm_Store_limit_k1 : V → List V → List V | z, [x0] => [z, x0] | z, l => z :: l
def pwm_Store_limit_k1 : Value → List Value → List Value | z, [x0] => [z, x0] | z, l => z :: l
theorem kbm_Store_limit_k1 (T : Txt K mg) : KM1 K T.fd_Store_limit ["self", "room"] ["room"] pwm_Store_limit_k1 pmm_Store_limit_k1 := Fun.km T.F_Store_limit (fun _ _ _ _ _ _ u ws hl => match ws, hl with | [_], _ => rfl) fun {x u zs ws} rx r l => match zs, ws, r, l with | [_], [_], (.cons r0 .nil), _ => .cons rx (.cons r0 .nil)
def pmm_Store_look_k1 : V → List V → List V | z, [x0] => [z, x0] | z, l => z :: l
def pwm_Store_look_k1 : Value → List Value → List Value | z, [x0] => [z, x0] | z, l => z :: l
theorem kbm_Store_look_k1 (T : Txt K mg) : KM1 K T.fd_Store_look ["self", "cell"] ["cell"] pwm_Store_look_k1 pmm_Store_look_k1 := Fun.km T.F_Store_look (fun _ _ _ _ _ _ u ws hl => match ws, hl with | [_], _ => rfl) fun {x u zs ws} rx r l => match zs, ws, r, l with | [_], [_], (.cons r0 .nil), _ => .cons rx (.cons r0 .nil)
def pmm_Store_take_k1 : V → List V → List V | z, [x0] => [z, x0] | z, l => z :: l
def pwm_Store_take_k1 : Value → List Value → List Value | z, [x0] => [z, x0] | z, l => z :: l
theorem kbm_Store_take_k1 (T : Txt K mg) : KM1 K T.fd_Store_take ["self", "cell"] ["cell"] pwm_Store_take_k1 pmm_Store_take_k1 := Fun.km T.F_Store_take (fun _ _ _ _ _ _ u ws hl => match ws, hl with | [_], _ => rfl) fun {x u zs ws} rx r l => match zs, ws, r, l with | [_], [_], (.cons r0 .nil), _ => .cons rx (.cons r0 .nil)
end CP
open CP L2 in
local macro_rules | `(tactic| walk_at "at") => `(tactic| first
  | assumption
  | (refine CP.Same.to (by assumption) ?_; walk_at "at")
  | (refine CP.SB.to (by assumption) ?ne ?_; (case ne => walk_at "ne"); walk_at "at"))
open CP L2 in
local macro_rules | `(tactic| walk_at "ne") => `(tactic| first
  | assumption
  | (refine Ne.symm ?_; assumption)
  | (refine L2.ne_of_none (o := ?o) ?h1 (by assumption); (case h1 => walk_at "at"))
  | (refine Ne.symm (L2.ne_of_none (o := ?o) ?h1 (by assumption)); (case h1 => walk_at "at")))
open CP L2 in
local macro_rules | `(tactic| walk_at "sm") => `(tactic| first
  | assumption
  | exact L2.Same.refl _
  | (refine L2.Same.trans ?_ (by assumption); walk_at "sm")
  | (refine CP.Same.sb ?s ?n (by assumption); (case s => walk_at "sm"); (case n => walk_at "nn")))
open CP L2 in
local macro_rules | `(tactic| walk_at "nn") => `(tactic| first
  | assumption
  | (refine L2.Same.free ?s (by assumption); (case s => walk_at "sm"))
  | (refine CP.SB.free (by assumption) ?h ?n; (case h => walk_at "nn"); (case n => walk_at "ne")))
open CP L2 in
local macro_rules | `(tactic| walk_at "sq") => `(tactic| first
  | assumption
  | (refine L2.SqL.of ?_; walk_at "at")
  | (refine L2.SqT.of ?_; walk_at "at")
  | (refine L2.Same.seq (by assumption) ?_; walk_at "sq"))
open CP L2 in
local macro_rules | `(tactic| walk_at "side") => `(tactic| first
  | assumption
  | decide
  | (with_reducible refine CP.mul_ok ?_; omega)
  | (with_reducible refine CP.mul_okN ?_; omega)
  | (with_reducible refine CP.div_ok ?_; omega)
  | (show (0 : Int) < _; omega)
  | omega)
open CP L2 in
local macro_rules | `(tactic| walk_at "st") => `(tactic| simp only [L2.start, List.map_cons, List.map_nil, List.length_cons, List.length_nil, Nat.reduceAdd, Nat.reduceSub, List.replicate_succ, List.replicate_zero, List.cons_append, List.nil_append, List.append_nil])
open CP L2 in
local macro_rules | `(tactic| walk_at "s") => `(tactic| first
  | with_reducible refine CP.r_seq ?_
  | with_reducible refine CP.r_asg ?_
  | (with_reducible refine CP.r_name ?_; dsimp only [List.set_cons_zero, List.set_cons_succ])
  | with_reducible refine CP.r_var rfl ?_
  | with_reducible refine CP.r_c ?_
  | with_reducible refine CP.r_op ?_
  | with_reducible refine CP.r_I0 ?_
  | (with_reducible refine CP.r_I ?c ?_; (case c => walk_at "side"))
  | with_reducible refine CP.r_eqI ?_
  | with_reducible refine CP.r_neI ?_
  | with_reducible refine CP.r_test ?_
  | with_reducible refine CP.r_tB ?_
  | with_reducible refine CP.r_bl ?_
  | with_reducible refine CP.r_ifS ?_
  | with_reducible refine CP.if_t ?_
  | with_reducible refine CP.if_f ?_
  | with_reducible refine CP.if_nt ?_
  | with_reducible refine CP.if_nf ?_
  | with_reducible refine CP.r_cons ?_
  | with_reducible refine CP.r_nil ?_
  | with_reducible refine CP.r_call ?_
  | with_reducible refine CP.r_cb ?_
  | with_reducible refine CP.r_ret ?_
  | (with_reducible refine CP.r_par ?_)
  | (with_reducible refine CP.r_two ?_; dsimp only [List.set_cons_zero, List.set_cons_succ])
  | with_reducible refine CP.r_next ?_
  | with_reducible refine CP.r_and ?_
  | with_reducible refine CP.r_or ?_
  | with_reducible refine CP.r_not ?_
  | with_reducible refine CP.r_for ?_
  | with_reducible refine CP.r_iTup ?_
  | with_reducible refine CP.r_iList ?_
  | with_reducible refine CP.r_iRng1 ?_
  | (with_reducible refine CP.r_rng ?a ?b ?_; (case a => omega); (case b => omega))
  | with_reducible refine CP.r_tup ?_
  | with_reducible refine CP.r_lst ?_
  | with_reducible refine CP.r_dnewK ?_
  | (with_reducible refine CP.r_newO ?_; intro _ _ _ _ _)
  | (with_reducible refine CP.r_mk (by first | exact Nat.zero_le _ | (simp only [List.length_cons, List.length_nil, Nat.reduceAdd]; decide) | omega) ?_; intro _ _ _ _ _)
  | (with_reducible refine CP.r_len (ys := ?y) ?h ?_; (case h => walk_at "sq"))
  | (with_reducible refine CP.r_lenT (ys := ?y) ?h ?_; (case h => walk_at "sq"))
  | (with_reducible refine CP.r_list (ys := ?y) ?h ?_; (case h => walk_at "sq"); intro _ _ _ _ _)
  | with_reducible refine CP.r_max2 ?_
  | with_reducible refine CP.r_min2 ?_
  | with_reducible refine CP.r_abs ?_
  | with_reducible refine CP.r_int ?_
  | with_reducible refine CP.r_bits ?_
  | with_reducible refine CP.r_drop ?_
  | with_reducible refine CP.r_bm ?_
  | with_reducible refine CP.r_bm0 ?_
  | with_reducible refine CP.r_sl ?_
  | with_reducible refine CP.r_noPart ?_
  | with_reducible refine CP.r_part ?_
  | with_reducible refine CP.r_gsub ?_
  | (with_reducible refine CP.r_slL (xs := ?x) ?h ?_; (case h => walk_at "sq"); intro _ _ _ _ _)
  | (with_reducible refine CP.r_cat (xs := ?x) (ys := ?y) ?h ?h2 ?z ?_; (case h => walk_at "at"); (case h2 => walk_at "at"); (case z => first | omega | (simp only [List.length_map, List.length_cons, List.length_nil]; omega)); intro _ _ _ _ _)
  | with_reducible refine CP.r_lc ?_
  | (with_reducible refine CP.r_gtup (xs := ?x) ?h ?l ?_; (case h => walk_at "sq"); (case l => simp only [List.length_cons, List.length_nil, Nat.reduceAdd]))
  | with_reducible refine CP.r_gcons ?_
  | with_reducible refine CP.r_iRng2 ?_
  | (with_reducible refine CP.r_rng2 ?a ?_; (case a => omega))
  | with_reducible refine CP.r_neB ?_
  | with_reducible refine CP.r_eqB ?_
  | with_reducible refine CP.r_dget2 ?_
  | with_reducible refine CP.r_sdput ?_
  | (with_reducible refine CP.r_disp1 ?_; intro _ _ _ _ _)
  | with_reducible refine CP.r_gnil ?_
  | with_reducible refine CP.r_callW ?_
  | with_reducible refine CP.r_callD ?_
  | with_reducible refine CP.r_retN ?_
  | with_reducible refine CP.r_andV ?_
  | with_reducible refine CP.r_orV ?_
  | with_reducible refine CP.r_notV ?_
  | (with_reducible refine CP.r_isi (n := ?n) ?t ?c ?_; (case t => first | assumption | exact CP.tk_int | exact CP.tk_bl | exact CP.tk_non | exact CP.tk_str); (case c => decide))
  | with_reducible refine CP.r_ifE ?_)
open CP L2 in
local macro_rules | `(tactic| walk_at "d") => `(tactic| first
  | (with_reducible refine CP.r_name ?_; dsimp only [L2.wipe, List.set_cons_zero, List.set_cons_succ])
  | with_reducible refine CP.r_chain ?_
  | with_reducible refine CP.r_eqXS ?_
  | with_reducible refine CP.r_neXS ?_
  | with_reducible refine CP.r_eqXI ?_
  | with_reducible refine CP.r_neXI ?_
  | with_reducible refine CP.r_dc ?_
  | with_reducible refine CP.r_par3 ?_
  | with_reducible refine CP.r_iEnum ?_
  | with_reducible refine CP.r_makeK ?_
  | with_reducible refine CP.r_iKeys ?_
  | with_reducible refine CP.r_revL ?_
  | (with_reducible refine CP.r_three ?_; dsimp only [List.set_cons_zero, List.set_cons_succ])
  | with_reducible refine CP.r_notNr ?_
  | with_reducible refine CP.r_notNn ?_
  | with_reducible refine CP.r_isNr ?_
  | with_reducible refine CP.r_isNn ?_
  | with_reducible refine CP.r_lc2 ?_
  | with_reducible refine CP.r_iStr ?_
  | with_reducible refine CP.r_strx ?_
  | with_reducible refine CP.r_inS ?_
  | with_reducible refine CP.r_notInS ?_
  | with_reducible refine CP.r_tfld ?_
  | with_reducible refine CP.r_sfld ?_
  | with_reducible refine CP.r_tmake ?_
  | with_reducible refine CP.r_tmeth ?_
  | with_reducible refine CP.r_tdni ?_
  | with_reducible refine CP.r_tdin ?_
  | with_reducible refine CP.r_tdget ?_
  | (with_reducible refine CP.r_lookI (kvs := ?k) ?h ?_; (case h => walk_at "at"))
  | (with_reducible refine CP.r_lookS (kvs := ?k) ?h ?_; (case h => walk_at "at"))
  | (with_reducible refine CP.r_isD (kvs := ?k) ?h ?_; (case h => walk_at "at"))
  | (with_reducible refine CP.r_dget2I (kvs := ?k) ?h ?_; (case h => walk_at "at"))
  | (with_reducible refine CP.r_dget2S (kvs := ?k) ?h ?_; (case h => walk_at "at"))
  | with_reducible refine CP.r_un ?_
  | with_reducible refine CP.r_unI ?_
  | with_reducible refine CP.r_callSD ?_
  | with_reducible refine CP.r_methSD ?_
  | with_reducible refine CP.r_opS ?_
  | with_reducible refine CP.r_tryK ?_
  | with_reducible refine CP.r_raise0 ?_
  | with_reducible refine CP.r_raise ?_
  | with_reducible refine CP.r_errF ?_)
open CP L2 in
local macro_rules | `(tactic| walk_at "w") => `(tactic| first
  | walk_at "s"
  | walk_at "d")

namespace CP
open PySem L2
section
theorem rows_by {rows : List Sd} (h : (rows.isEmpty = false ∧ rows.length ≤ 20 ∧ (rows.all fun r => letB r.1 && r.2.1.all letB && r.2.2.all letB && decide (r.2.1.length ≤ 30) && decide (r.2.2.length ≤ 30)) = true ∧ (rows.map (·.1)).Nodup ∧ (rows.all fun r => (r.2.1 ++ r.2.2).all fun x => decide (x ∉ rows.map (·.1))) = true)) : Rows rows := by
  obtain ⟨h1, h2, h3, h4, h5⟩ := h
  rw [List.all_eq_true] at h3 h5
  have h3' : ∀ r ∈ rows, letB r.1 = true ∧ Lets r.2.1 ∧ Lets r.2.2 := fun r hr => by
    have := h3 r hr
    simp only [Bool.and_eq_true, List.all_eq_true, decide_eq_true_eq] at this
    exact ⟨this.1.1.1.1, ⟨this.1.1.1.2, this.1.2⟩, ⟨this.1.1.2, this.2⟩⟩
  refine ⟨fun z => (by rw [z] at h1; cases h1), h2, fun r hr => (h3' r hr).1, fun r hr => (h3' r hr).2.1, fun r hr => (h3' r hr).2.2, h4, fun r hr x hx => ?_⟩
  have := h5 r hr
  rw [List.all_eq_true] at this
  exact of_decide_eq_true (this x hx)
/-- the law's table -/
def brd : List Sd := [("r", ["m"], ["n"]), ("c", ["n"], [])]
theorem brd_ok : Rows brd := rows_by (by decide +kernel)
theorem brd_srow : brd.map srow = brd := by decide +kernel
def szV (hi wi : Int) : List (Str × Int) := [("m", hi), ("n", wi)]
def kx : List Key := [Sum.inl 1, Sum.inl 2]
theorem kx_map : kx.map kV = [V.int 1, V.int 2] := rfl
/-- the values are within bounds -/
def NumB (hi wi : Int) : Prop := 2 ≤ hi ∧ hi < 2 ^ 60 ∧ 3 ≤ wi ∧ wi < 2 ^ 60
/-- the cell [1, 2] or (1, 2) -/
def Cel (K : PySem.W.Frag) (H : Hp) (c : Addr) : Prop := SqL K H c [.int 1, .int 2] ∨ SqT K H c [.int 1, .int 2]
/-- a store's fields -/
def ShO {K : PySem.W.Frag} {mg : Str → Option Value} (T : Txt K mg) (H : Hp) (o tb st pl : Addr) (m : V) : Prop := ∃ dx, H o = some (.ins T.a_Store dx [("table", .ref tb), ("state", .ref st), ("most", m), ("past", .ref pl)])
def StO (H : Hp) (st dv dl : Addr) (hi wi : Int) (ld : List (List Key × V)) : Prop := H st = some (.tup [.ref dv, .ref dl]) ∧ H dv = some (.dK (dV (szV hi wi))) ∧ H dl = some (.dT ld)
def ShAt {K : PySem.W.Frag} {mg : Str → Option Value} (T : Txt K mg) (H : Hp) (o : Addr) (hi wi : Int) (ld : List (List Key × V)) (m : V) (n : Nat) : Prop :=
  ∃ tb st pl dv dl ps, ShO T H o tb st pl m ∧ TabAt T.a_Plain H tb brd ∧ StO H st dv dl hi wi ld ∧ H pl = some (.lst ps) ∧ ps.length = n
/-- a trial's fields -/
def TrO {K : PySem.W.Frag} {mg : Str → Option Value} (T : Txt K mg) (H : Hp) (a o st pl : Addr) (m : V) : Prop := ∃ dx, H a = some (.ins T.a_Trial dx [("store", .ref o), ("state", .ref st), ("most", m), ("past", .ref pl)])
section
variable {K : PySem.W.Frag} {mg : Str → Option Value} {T : Txt K mg} {H H' : Hp} {o tb st pl dv dl a : Addr} {m : V} {hi wi : Int} {ld : List (List Key × V)} {n : Nat}
theorem ShO.mono (h : ShO T H o tb st pl m) (s : Same H H') : ShO T H' o tb st pl m := let ⟨dx, e⟩ := h; ⟨dx, s _ _ e⟩
theorem TrO.mono (h : TrO T H a o st pl m) (s : Same H H') : TrO T H' a o st pl m := let ⟨dx, e⟩ := h; ⟨dx, s _ _ e⟩
theorem StO.mono (h : StO H st dv dl hi wi ld) (s : Same H H') : StO H' st dv dl hi wi ld := ⟨s _ _ h.1, s _ _ h.2.1, s _ _ h.2.2⟩
theorem ShAt.mono (h : ShAt T H o hi wi ld m n) (s : Same H H') : ShAt T H' o hi wi ld m n := by
  obtain ⟨tb, st, pl, dv, dl, ps, h1, h2, h3, h4, h5⟩ := h
  exact ⟨tb, st, pl, dv, dl, ps, h1.mono s, h2.mono s, h3.mono s, s _ _ h4, h5⟩
theorem ShO.ne_tr (h : ShO T H o tb st pl m) {o' st' pl' : Addr} {m' : V} (g : TrO T H a o' st' pl' m') : a ≠ o := by
  obtain ⟨dx, h⟩ := h
  obtain ⟨dy, g⟩ := g
  intro e
  rw [e, h] at g
  injection g with g
  injection g with _ _ g
  injection g with g _
  injection g with g _
  exact absurd g (by decide)
theorem ShO.ne_tab (h : ShO T H o tb st pl m) {t : Addr} {rows : List Sd} (g : TabAt T.a_Plain H t rows) : t ≠ o := by
  obtain ⟨dx, h⟩ := h
  obtain ⟨dy, p, g, _⟩ := g
  intro e
  rw [e, h] at g
  injection g with g
  injection g with _ _ g
  injection g with g _
  injection g with g _
  exact absurd g (by decide)
theorem side_sbo {v : V} {r : Sd} (h : SideAt H v r) (g : ShO T H o tb st pl m) (s : SB o H H') : SideAt H' v r := by
  obtain ⟨dx, g⟩ := g
  obtain ⟨t, a, b, e, h1, h2, h3⟩ := h
  exact ⟨t, a, b, e, s _ _ (fun z => by rw [z, g] at h1; cases h1) h1, s _ _ (fun z => by rw [z, g] at h2; cases h2) h2, s _ _ (fun z => by rw [z, g] at h3; cases h3) h3⟩
theorem tab_sbo {t : Addr} {rows : List Sd} (h : TabAt T.a_Plain H t rows) (g : ShO T H o tb st pl m) (s : SB o H H') : TabAt T.a_Plain H' t rows := by
  have ne := g.ne_tab h
  obtain ⟨dx, p, h1, vs, h2, h3⟩ := h
  refine ⟨dx, p, s _ _ ne h1, vs, s _ _ (fun z => ?_) h2, pd_mono h3 fun _ _ w => side_sbo w g s⟩
  obtain ⟨dy, g⟩ := g
  rw [z, g] at h2
  cases h2
theorem StO.sbo (h : StO H st dv dl hi wi ld) {tb' st' pl' : Addr} (g : ShO T H o tb' st' pl' m) (s : SB o H H') : StO H' st dv dl hi wi ld := by
  obtain ⟨dx, g⟩ := g
  obtain ⟨h1, h2, h3⟩ := h
  exact ⟨s _ _ (fun z => by rw [z, g] at h1; cases h1) h1, s _ _ (fun z => by rw [z, g] at h2; cases h2) h2, s _ _ (fun z => by rw [z, g] at h3; cases h3) h3⟩
theorem lst_sbo {p : Addr} {xs : List V} (h : H p = some (.lst xs)) (g : ShO T H o tb st pl m) (s : SB o H H') : H' p = some (.lst xs) := by
  obtain ⟨dx, g⟩ := g
  exact s _ _ (fun z => by rw [z, g] at h; cases h) h
end
theorem sz_n (hi wi : Int) : valV (dV (szV hi wi)) (Sum.inr "n") = some (.int wi) := rfl
theorem sz_m (hi wi : Int) : valV (dV (szV hi wi)) (Sum.inr "m") = some (.int hi) := rfl
theorem kx_val (v : V) : valV [(kx, v)] kx = some v := valV_pos rfl
theorem kx_put (v : V) : putK [] kx v = [(kx, v)] := rfl
theorem kx_drop (v : V) : dropK [(kx, v)] kx = [] := by
  unfold dropK
  rw [List.filter_cons_of_neg (by simp)]
  rfl
theorem brd_at {H : Hp} {ws : List V} (pr : Paired (SideAt H) ws brd) : ∃ t1 a1 b1 t2 a2 b2, ws = [.ref t1, .ref t2] ∧ H t1 = some (.tup [.str "r", .ref a1, .ref b1]) ∧ H a1 = some (.lst (strL ["m"])) ∧ H b1 = some (.lst (strL ["n"])) ∧ H t2 = some (.tup [.str "c", .ref a2, .ref b2]) ∧ H a2 = some (.lst (strL ["n"])) ∧ H b2 = some (.lst (strL [])) := by
  unfold brd at pr
  cases pr with
  | cons s1 t =>
    cases t with
    | cons s2 t2 =>
      cases t2
      obtain ⟨t1, a1, b1, rfl, x1, x2, x3⟩ := s1
      obtain ⟨t2, a2, b2, rfl, y1, y2, y3⟩ := s2
      exact ⟨t1, a1, b1, t2, a2, b2, rfl, x1, x2, x3, y1, y2, y3⟩
theorem prod_1 (k : Str) (x : Int) : prodF (fun _ => x) [k] = x := by
  show 1 * x = x
  omega
theorem prod_0 (x : Int) : prodF (fun _ => x) [] = 1 := rfl
theorem prod_t {k : Str} {x : Int} (h : x < 2 ^ 60) : ∀ i, i ≤ ([k] : List Str).length → prodF (fun _ => x) (([k] : List Str).take i) < 2 ^ 400 := fun i _ => by
  cases i with
  | zero =>
    rw [List.take_zero, prod_0]
    decide +kernel
  | succ j =>
    rw [List.take_succ_cons, List.take_nil, prod_1]
    exact Int.lt_trans h (by decide +kernel)
theorem val_1 {kvs : List (Key × V)} {k : Str} {x : Int} (e : valV kvs (Sum.inr k) = some (.int x)) (h0 : 0 ≤ x) (h : x < 2 ^ 60) : ∀ w ∈ ([k] : List Str), valV kvs (Sum.inr w) = some (.int ((fun _ => x) w)) ∧ 0 ≤ (fun _ => x) w ∧ (fun _ => x) w < 2 ^ 400 := fun w hw => by
  rw [List.mem_singleton.mp hw]
  exact ⟨e, h0, Int.lt_trans h (by decide +kernel)⟩

end
end CP

namespace CP
open PySem L2
section
variable {P : Program} {w : World} {K : PySem.W.Frag} {mg : Str → Option Value} {base : Heap}
def sp_Store_room (T : Txt K mg) : Sp := fun vs H Q _ => match vs with
  | [.ref o] => ∃ tb st pl m, ShO T H o tb st pl m ∧ Q m H
  | _ => False
def t_Store_room (w : World) (T : Txt K mg) : TS := tRet (tFld K (tVar 0) "most")
theorem len_Store_room (T : Txt K mg) : ∀ (vs : List V) (H : Hp) (Q : VK) (E : XK), sp_Store_room T vs H Q E → vs.length = (["self"] : List Str).length := by
  intro vs H Q E h
  unfold sp_Store_room at h
  split at h
  all_goals first | rfl | exact h.elim
theorem rd_Store_room (T : Txt K mg) (vs : List V) (H : Hp) (Q : VK) (E : XK) (h : sp_Store_room T vs H Q E) : t_Store_room w T { nx := fun _ H' => Q .non H', rt := Q } (start ["self"] vs) H := by
  match vs, h with
  | [.ref o], h =>
  obtain ⟨tb, st, pl, m, ⟨dx, ho⟩, q⟩ := h
  unfold t_Store_room
  walk_at "st"
  repeat walk_at "w"
  refine r_fget ho T.c_Store T.n_Store_most (by rfl) ?_
  exact q

theorem ok_Store_room (T : Txt K mg) : FnOk P w K mg base CX0 1 T.a_Store_room T.fd_Store_room ["self"] (sp_Store_room T) :=
  T.F_Store_room.ok sc_Store_room (len_Store_room T) fun cdv A outer s H vs Q E hr h => ⟨t_Store_room w T, (pss_one (ps_ret (pe_fld (pv 0) rfl))), rd_Store_room T vs H Q E h⟩
end
end CP

namespace CP
open PySem L2
section
open NdefX
def forBody : Stmt → List Stmt
  | .For (body := b) .. => b
  | _ => []
/-- the law's own function -/
def st_action : Stmt := (forBody ((defBody s_law).getD 0 (.Pass ⟨0, 0, 0, 0⟩))).getD 7 (.Pass ⟨0, 0, 0, 0⟩)
def qn_action : Str := "law.<locals>._law_action"
def mk_action (c : Addr) : NF := NF.of st_action "_law_action" qn_action [] c
def ntab {K : PySem.W.Frag} {mg : Str → Option Value} (T : Txt K mg) : List NTab := [(T.tP, fun _ _ => qn_action)]
def spn_action {K : PySem.W.Frag} {mg : Str → Option Value} (T : Txt K mg) (_ _ : Addr) (_ : List (Option V)) : Sp := fun vs H Q _ => ∃ o tb st pl m, vs = [.ref o] ∧ ShO T H o tb st pl m ∧ Q m H
theorem nok_action {P : Program} {w : World} {K : PySem.W.Frag} {mg : Str → Option Value} {base : Heap} (T : Txt K mg) (f c' : Addr) : NOk P w K mg base CX0 8 f (mk_action c') ["_law_same"] [] (spn_action T f c') := by
  refine nok_of (N := ["_law_same"]) (k := 7) (nscope_by (show nscB ["_law_same"] ["_law_same"] [] (C8.fnScope st_action) = true from by decide +kernel)) (fun doc pm ctv us hl => match us, hl with | [_], _ => rfl) (fun ws vs H Q E h => ?_) fun A outer s H vs ws Q E hr hf hc hl h => ?_
  · obtain ⟨o, tb, st, pl, m, rfl, _⟩ := h
    rfl
  · obtain ⟨o, tb, st, pl, m, rfl, hs, q⟩ := h
    refine ⟨_, PSs.nox (pss_one (ps_ret (pe_prop (pv 0) T.c_Store T.P_Store_room (ok_Store_room T) (hr.mono (by decide)) (b_Store_room T) .nil pass0 rfl))), ?_⟩
    have hw : ws = [] := List.length_eq_zero_iff.mp hl
    subst hw
    obtain ⟨dx, ho⟩ := id hs
    exact ⟨.ref o, rfl, o, dx, _, rfl, ho, tb, st, pl, m, hs, q⟩

end
end CP

namespace CP
open PySem L2
section
variable {P : Program} {w : World} {K : PySem.W.Frag} {mg : Str → Option Value} {base : Heap}
/-- of a value of a known kind -/
def sp_is_whole (_ : Txt K mg) : Sp := fun vs H Q _ => match vs with
  | [x] => ∃ n, TK K H x n ∧ Q (.bl (n == "int")) H
  | _ => False
def t_is_whole (w : World) (T : Txt K mg) : TS := tRet (tAndV (tCB (rIsi K) (tCons (tVar 0) (tCons (tC (.ty "int")) (tNil)))) (tNotV (tCB (rIsi K) (tCons (tVar 0) (tCons (tC (.ty "bool")) (tNil))))))
theorem len_is_whole (T : Txt K mg) : ∀ (vs : List V) (H : Hp) (Q : VK) (E : XK), sp_is_whole T vs H Q E → vs.length = (["value"] : List Str).length := by
  intro vs H Q E h
  unfold sp_is_whole at h
  split at h
  all_goals first | rfl | exact h.elim
theorem rd_is_whole (T : Txt K mg) (vs : List V) (H : Hp) (Q : VK) (E : XK) (h : sp_is_whole T vs H Q E) : t_is_whole w T { nx := fun _ H' => Q .non H', rt := Q } (start ["value"] vs) H := by
  match vs, h with
  | [x], h =>
  obtain ⟨n, ht, q⟩ := h
  unfold t_is_whole
  walk_at "st"
  repeat walk_at "s"
  refine if_b (fun c => ?_) (fun c => ?_)
  · repeat walk_at "s"
    have e : (!(n == "bool" || n == "bool" && "bool" == "int")) = (n == "int") := by
      cases hb : n == "int" <;> cases hi : n == "bool" <;> simp_all
    rw [e]
    exact q
  · have e : (n == "int") = false := by
      cases hb : n == "int" <;> simp_all
    rw [e] at q
    exact q

theorem ok_is_whole (T : Txt K mg) : FnOk P w K mg base CX0 1 T.a_is_whole T.fd_is_whole ["value"] (sp_is_whole T) :=
  T.F_is_whole.ok sc_is_whole (len_is_whole T) fun cdv A outer s H vs Q E hr h => ⟨t_is_whole w T, (pss_one (ps_ret (pe_and (pe_callB call_isi (by rfl) T.n_isinstance (by decide +kernel) (pa_cons (pv 0) (pa_cons (pe_bltn (v := .ty "int") (by rfl) T.n_int (by decide +kernel) rfl) pa_nil))) (pe_one (pe_not (pe_callB call_isi (by rfl) T.n_isinstance (by decide +kernel) (pa_cons (pv 0) (pa_cons (pe_bltn (v := .ty "bool") (by rfl) T.n_bool (by decide +kernel) rfl) pa_nil)))))))), rd_is_whole T vs H Q E h⟩
end
end CP

namespace CP
open PySem L2
section
variable {P : Program} {w : World} {K : PySem.W.Frag} {mg : Str → Option Value} {base : Heap}
def sp_is_count (_ : Txt K mg) : Sp := fun vs H Q _ => match vs with
  | [.int i] => Q (.bl (decide (0 ≤ i))) H
  | [x] => ∃ n, TK K H x n ∧ n ≠ "int" ∧ Q (.bl false) H
  | _ => False
def t_is_count (w : World) (T : Txt K mg) : TS := tRet (tAndV (tCall (sp_is_whole T) [] E0 (tCons (tVar 0) (tNil))) (tOp oGe (tVar 0) (tC (.int 0))))
theorem len_is_count (T : Txt K mg) : ∀ (vs : List V) (H : Hp) (Q : VK) (E : XK), sp_is_count T vs H Q E → vs.length = (["value"] : List Str).length := by
  intro vs H Q E h
  unfold sp_is_count at h
  split at h
  all_goals first | rfl | exact h.elim
theorem rd_is_count (T : Txt K mg) (vs : List V) (H : Hp) (Q : VK) (E : XK) (h : sp_is_count T vs H Q E) : t_is_count w T { nx := fun _ H' => Q .non H', rt := Q } (start ["value"] vs) H := by
  unfold t_is_count
  unfold sp_is_count at h
  split at h
  · rename_i i
    walk_at "st"
    repeat walk_at "s"
    refine ⟨"int", tk_int, ?_⟩
    repeat walk_at "s"
    refine if_t ?_
    repeat walk_at "s"
    exact h
  · rename_i x hx
    obtain ⟨n, ht, hn, q⟩ := h
    walk_at "st"
    repeat walk_at "s"
    refine ⟨n, ht, ?_⟩
    repeat walk_at "s"
    have e : (n == "int") = false := by simpa using hn
    rw [e]
    refine if_f ?_
    exact q
  · exact h.elim

theorem ok_is_count (T : Txt K mg) : FnOk P w K mg base CX0 2 T.a_is_count T.fd_is_count ["value"] (sp_is_count T) :=
  T.F_is_count.ok sc_is_count (len_is_count T) fun cdv A outer s H vs Q E hr h => ⟨t_is_count w T, (pss_one (ps_ret (pe_and (pe_call (ok_is_whole T) (hr.mono (by decide)) (by rfl) T.m_is_whole T.F_is_whole.kp (b_is_whole T) .nil pass0 (pa_cons (pv 0) pa_nil)) (pe_one (pe_cmpR op_ge (pv 0) pe_int (nomark _)))))), rd_is_count T vs H Q E h⟩
end
end CP

namespace CP
open PySem L2
section
variable {P : Program} {w : World} {K : PySem.W.Frag} {mg : Str → Option Value} {base : Heap}
def sp_is_letter (_ : Txt K mg) : Sp := fun vs H Q _ => match vs with
  | [x] => ∃ n, TK K H x n ∧ ((n ≠ "str" ∧ ∀ H', Same H H' → Q (.bl false) H') ∨ ∃ z, n = "str" ∧ x = .str z ∧ z.length ≤ sizeLine ∧ (PyData.str z).canLay0 = true ∧ ∀ H', Same H H' → Q (.bl (letB z)) H')
  | _ => False
def t_is_letter (w : World) (T : Txt K mg) : TS := tSeq (tIfS (tOr (tNot (tB (tCB (rIsi K) (tCons (tVar 0) (tCons (tC (.ty "str")) (tNil)))))) (tNot (tTest (tChain oLe oLe (tC (.int 1)) (tCB oLenS (tCons (tVar 0) (tNil))) (tC (.int 10)))))) (tRet (tC (.bl false))) (tNext)) (tRet (tOp (rEqX K) (tLc (iStr (tVar 0)) (gName 1) (tTest (tOp rNotInS (tVar 1) (tC (c_SMALL)))) (tVar 1) [1]) (tLst (tNil))))
theorem len_is_letter (T : Txt K mg) : ∀ (vs : List V) (H : Hp) (Q : VK) (E : XK), sp_is_letter T vs H Q E → vs.length = (["value"] : List Str).length := by
  intro vs H Q E h
  unfold sp_is_letter at h
  split at h
  all_goals first | rfl | exact h.elim
theorem rd_is_letter (T : Txt K mg) (vs : List V) (H : Hp) (Q : VK) (E : XK) (h : sp_is_letter T vs H Q E) : t_is_letter w T { nx := fun _ H' => Q .non H', rt := Q } (start ["value", "sign"] vs) H := by
  match vs, h with
  | [x], h =>
  obtain ⟨n, ht, h⟩ := h
  unfold t_is_letter
  walk_at "st"
  repeat walk_at "w"
  have e2 : ("str" == "int") = false := by decide
  rcases h with ⟨hn, q⟩ | ⟨z, rfl, rfl, hz, hy, q⟩
  · have e1 : (n == "str") = false := by rw [beq_eq_false_iff_ne]; exact hn
    rw [e1, e2, Bool.and_false, Bool.or_false]
    repeat walk_at "w"
    exact q _ (Same.refl _)
  · have e1 : ("str" == "str" || "str" == "bool" && "str" == "int") = true := by decide
    rw [e1]
    repeat walk_at "w"
    refine r_lenS hz ?_
    repeat walk_at "w"
    unfold letB at q
    refine if_d (fun k1 => ?_) fun k1 => ?_
    · repeat walk_at "w"
      refine if_nd (fun k2 => ?_) fun k2 => ?_
      · repeat walk_at "w"
        rw [decide_eq_false (by omega)] at q
        exact q _ (Same.refl _)
      · repeat walk_at "w"
        rw [decide_eq_true (by omega), Bool.true_and] at q
        have zs : z.length = z.cps.size := rfl
        intro D hD
        refine lc_tellS (β := V) (fun _ x b => x = b) ((z.cps.toList.map fun c => if decide (c ∈ smallT.cps.toList) = true then none else some (V.str ⟨#[c]⟩))) hD (by simp) (by rw [List.length_map, Array.length_toList]; have : sizeLine = 16777216 := rfl; omega) (fun _ _ _ _ _ z => z) (fun i c o H' hc ho s1 _ N no yes => ?_) fun H1 acc s1 hacc pp => ?_
        · have ho : o = if decide (c ∈ smallT.cps.toList) = true then none else some (V.str ⟨#[c]⟩) := by
            rw [List.getElem?_map, Array.getElem?_toList, hc] at ho
            exact (Option.some.inj ho).symm
          subst ho
          repeat walk_at "w"
          refine ⟨rfl, ?_⟩
          repeat walk_at "w"
          refine if_nd (fun k => ?_) fun k => ?_
          · have k : ¬ c ∈ smallT.cps.toList := k
            rw [if_neg (by rw [decide_eq_false k]; decide)] at yes
            repeat walk_at "w"
            exact yes _ _ _ rfl (Same.refl _) rfl
          · have k : c ∈ smallT.cps.toList := k
            rw [if_pos (by rw [decide_eq_true k])] at no
            exact no _ rfl (Same.refl _)
        · have e := pd_eq pp
          rw [List.filterMap_map] at e
          have e3 : acc = strL ((z.cps.toList.filter fun c => !decide (c ∈ smallT.cps.toList)).map fun c => ⟨#[c]⟩) := by
            rw [e]
            unfold strL
            rw [List.map_map]
            generalize z.cps.toList = l
            induction l with
            | nil => rfl
            | cons c l ih =>
              by_cases k : c ∈ smallT.cps.toList
              · rw [List.filterMap_cons_none (by show (if decide (c ∈ smallT.cps.toList) = true then none else _) = none; rw [if_pos (decide_eq_true k)]), List.filter_cons_of_neg (by rw [decide_eq_true k]; decide)]
                exact ih
              · rw [List.filterMap_cons_some (b := V.str ⟨#[c]⟩) (by show (if decide (c ∈ smallT.cps.toList) = true then none else _) = _; rw [if_neg (by rw [decide_eq_false k]; decide)]), List.filter_cons_of_pos (by rw [decide_eq_false k]; rfl), List.map_cons, ih]
                rfl
          rw [e3] at hacc
          have hlow : ∀ c ∈ z.cps.toList, c < 0x110000 := fun c hc => by
            simp only [PyData.canLay0] at hy
            have hy : z.cps.all (· < 0x110000) = true := hy
            rw [← Array.all_toList, List.all_eq_true] at hy
            exact of_decide_eq_true (hy c hc)
          repeat walk_at "w"
          rename_i L HL L0 sL hL
          have q' := q HL (s1.trans sL)
          refine nil_eqX (.of (CP.Same.to sL hacc)) (.of hL) (strs_dp fun x hx => ?_) ?_
          · obtain ⟨c, hc, rfl⟩ := List.mem_map.mp hx
            have := hlow c (List.mem_filter.mp hc).1
            simp only [PyData.canLay0]
            show (#[c] : Array Nat).all (· < 0x110000) = true
            simp [this]
          · have e4 : (strL ((z.cps.toList.filter fun c => !decide (c ∈ smallT.cps.toList)).map fun c => ⟨#[c]⟩)).isEmpty = z.cps.toList.all fun c => decide (c ∈ smallT.cps.toList) := by
              unfold strL
              rw [Bool.eq_iff_iff, List.isEmpty_iff, List.map_eq_nil_iff, List.map_eq_nil_iff, List.filter_eq_nil_iff, List.all_eq_true]
              refine forall_congr' fun c => forall_congr' fun _ => ?_
              cases decide (c ∈ smallT.cps.toList) <;> simp
            rw [e4]
            exact q'
    · repeat walk_at "w"
      rw [decide_eq_false (by omega)] at q
      exact q _ (Same.refl _)

theorem ok_is_letter (T : Txt K mg) : FnOk P w K mg base CX0 1 T.a_is_letter T.fd_is_letter ["value"] (sp_is_letter T) :=
  T.F_is_letter.ok sc_is_letter (len_is_letter T) fun cdv A outer s H vs Q E hr h => ⟨t_is_letter w T, (pss_cons (ps_if (PW.pt (pw_or (pt_not (pt_val (pe_callB call_isi (by rfl) T.n_isinstance (by decide +kernel) (pa_cons (pv 0) (pa_cons (pe_bltn (v := .ty "str") (by rfl) T.n_str (by decide +kernel) rfl) pa_nil))))) (pw_or1 (pt_not (pt_chain op_le op_le pe_int (pe_callB call_len_str (by rfl) T.n_len (by decide +kernel) (pa_cons (pv 0) pa_nil)) pe_int))))) (pss_one (ps_ret pe_bl)) pss_nil)
      (pss_one (ps_ret (pe_cmpR (op_eqX hr.units) (pe_lc (own := [("sign", 1)]) (g := (gName 1)) (tt := tTest (tOp rNotInS (tVar 1) (tC (c_SMALL)))) (te := tVar 1) rfl sc_is_letter.nd (pi_str (pv 0)) (blkOk_by (own := [("sign", 1)]) (N := ["value", "sign"]) (sc := defScope s_is_letter) (by decide +kernel)) (fun _ _ _ _ _ => (pg_name (i := 1) sc_is_letter.nd rfl (Or.inl rfl))) (fun _ _ _ _ _ => (pts_one (pt_cmpR op_notInS (pv 1) (pe_glob (by rfl) T.m_SMALL.1 T.m_SMALL.2) (by rfl)))) (fun _ _ _ _ _ => (pv 1))) (pe_lst pa_nil) (nomark _))))), rd_is_letter T vs H Q E h⟩
end
end CP

namespace CP
open PySem L2
section
variable {P : Program} {w : World} {K : PySem.W.Frag} {mg : Str → Option Value} {base : Heap}
def sp_are_values (_ : Txt K mg) : Sp := fun vs H Q _ => match vs with
  | [.ref d] => ∃ kv, H d = some (.dK (dV kv)) ∧ (∀ p ∈ kv, letB p.1 = true) ∧ (kv.map (·.1)).Nodup ∧ kv.length < 2000 ∧ ∀ H', Same H H' → Q (.bl true) H'
  | _ => False
def t_are_values (w : World) (T : Txt K mg) : TS := tSeq (tIfS (tNot (tB (tCB (rIsi K) (tCons (tVar 0) (tCons (tC (.ty "dict")) (tNil)))))) (tRet (tC (.bl false))) (tNext)) (tRet (tOp (rEqX K) (tLockE (tLc (iKeys (tVar 0)) (gName 1) (tOr (tNot (tB (tCall (sp_is_letter T) [] E0 (tCons (tVar 1) (tNil))))) (tNot (tB (tCall (sp_is_whole T) [] E0 (tCons (tDGet (tVar 0) (tVar 1)) (tNil)))))) (tVar 1) [1])) (tLst (tNil))))
theorem len_are_values (T : Txt K mg) : ∀ (vs : List V) (H : Hp) (Q : VK) (E : XK), sp_are_values T vs H Q E → vs.length = (["value"] : List Str).length := by
  intro vs H Q E h
  unfold sp_are_values at h
  split at h
  all_goals first | rfl | exact h.elim
theorem rd_are_values (T : Txt K mg) (vs : List V) (H : Hp) (Q : VK) (E : XK) (h : sp_are_values T vs H Q E) : t_are_values w T { nx := fun _ H' => Q .non H', rt := Q } (start ["value", "name"] vs) H := by
  match vs, h with
  | [.ref d], h =>
  obtain ⟨kv, hd, hl, nd, hz, q⟩ := h
  have sz : sizeLine = 16777216 := rfl
  unfold t_are_values
  walk_at "st"
  repeat walk_at "w"
  refine r_isi (n := "dict") (tk_dK hd) (by decide) ?_
  rw [show ("dict" == "dict" || ("dict" == "bool" && "dict" == "int")) = true by decide]
  repeat walk_at "w"
  refine r_lockE hd fun od H1 h1 k1 sm => ?_
  repeat walk_at "w"
  refine ⟨d, od, rfl, .inl ⟨_, h1, fun D hD => lc_keysN hD h1 (by unfold dV; rw [List.length_map]; omega) (fun i k v H2 hk s2 N no yes => ?_) fun H2 s2 hacc => ?_⟩⟩
  · obtain ⟨p, hp, rfl, rfl⟩ := dV_get hk
    have lp := hl p hp
    have h2 := CP.Same.to s2 h1
    repeat walk_at "w"
    refine ⟨rfl, ?_⟩
    repeat walk_at "w"
    refine ⟨"str", tk_str, .inr ⟨p.1, rfl, rfl, by have := let_len lp; omega, let_lay lp, fun H3 s3 => ?_⟩⟩
    rw [lp]
    repeat walk_at "w"
    refine r_dgetF (CP.Same.to s3 h2) (by rw [dV_val, getD_mem nd hp]; rfl) ?_
    repeat walk_at "w"
    refine ⟨"int", tk_int, ?_⟩
    repeat walk_at "w"
    exact no _ rfl s3
  have dD : D ≠ d := fun e => by rw [e, h1] at hD; cases hD
  refine ⟨CP.Same.to s2 h1, ?_⟩
  have S := sm H2 s2
  have hacc : (upd H2 d (.dK (dV kv))) D = some (.lst []) := by rw [upd_ne dD]; exact hacc
  generalize upd H2 d (.dK (dV kv)) = H3 at *
  repeat walk_at "w"
  rename_i M H4 M0 s4 hM
  refine nil_eqX0 (.of (CP.Same.to s4 hacc)) (.of hM) ?_
  repeat walk_at "w"
  exact q _ (S.trans s4)

theorem ok_are_values (T : Txt K mg) : FnOk P w K mg base CX0 2 T.a_are_values T.fd_are_values ["value"] (sp_are_values T) :=
  T.F_are_values.ok sc_are_values (len_are_values T) fun cdv A outer s H vs Q E hr h => ⟨t_are_values w T, (pss_cons (ps_if (pt_not (pt_val (pe_callB call_isi (by rfl) T.n_isinstance (by decide +kernel) (pa_cons (pv 0) (pa_cons (pe_bltn (v := .ty "dict") (by rfl) T.n_dict (by decide +kernel) rfl) pa_nil))))) (pss_one (ps_ret pe_bl)) pss_nil)
      (pss_one (ps_ret (pe_cmpR (op_eqX hr.units) (pe_lock (pe_lc (own := [("name", 1)]) (g := (gName 1)) (tt := tOr (tNot (tB (tCall (sp_is_letter T) [] E0 (tCons (tVar 1) (tNil))))) (tNot (tB (tCall (sp_is_whole T) [] E0 (tCons (tDGet (tVar 0) (tVar 1)) (tNil)))))) (te := tVar 1) rfl sc_are_values.nd (pi_keys (pv 0)) (blkOk_by (own := [("name", 1)]) (N := ["value", "name"]) (sc := defScope s_are_values) (by decide +kernel)) (fun _ _ _ _ _ => (pg_name (i := 1) sc_are_values.nd rfl (Or.inl rfl))) (fun _ _ _ _ _ => (pts_one (PW.pt (pw_or (pt_not (pt_val (pe_call (ok_is_letter T) (hr.mono (by decide)) (by rfl) T.m_is_letter T.F_is_letter.kp (b_is_letter T) .nil pass0 (pa_cons (pv 1) pa_nil)))) (pw_or1 (pt_not (pt_val (pe_call (ok_is_whole T) (hr.mono (by decide)) (by rfl) T.m_is_whole T.F_is_whole.kp (b_is_whole T) .nil pass0 (pa_cons (pe_dget (hu_of hr) (pv 0) (pv 1) (fun _ _ => rfl)) pa_nil))))))))) (fun _ _ _ _ _ => (pv 1)))) (pe_lst pa_nil) (nomark _))))), rd_are_values T vs H Q E h⟩
end
end CP

namespace CP
open PySem L2
section
variable {P : Program} {w : World} {K : PySem.W.Frag} {mg : Str → Option Value} {base : Heap}
def sp_check_sizes (_ : Txt K mg) : Sp := fun vs H Q _ => match vs with
  | [.ref a, .ref d] => ∃ l kv, H a = some (.lst (strL l)) ∧ H d = some (.dK (dV kv)) ∧ (∀ p ∈ kv, letB p.1 = true) ∧ (kv.map (·.1)).Nodup ∧ kv.length < 2000 ∧ l.length < 2000 ∧ (∀ k ∈ l, ∃ n, getD kv k = some n ∧ 1 ≤ n) ∧ ∀ H', Same H H' → Q .non H'
  | _ => False
def t_check_sizes (w : World) (T : Txt K mg) : TS := tIfS (tOr (tNot (tB (tCall (sp_are_values T) [] E0 (tCons (tVar 1) (tNil))))) (tTest (tOp (rNeX K) (tLc (iList K (tVar 0)) (gName 2) (tOr (tB (tDNotIn (tVar 2) (tVar 1))) (tTest (tOp oLt (tDGet (tVar 1) (tVar 2)) (tC (.int 1))))) (tVar 2) [2]) (tLst (tNil))))) (tNever) (tNext)
theorem len_check_sizes (T : Txt K mg) : ∀ (vs : List V) (H : Hp) (Q : VK) (E : XK), sp_check_sizes T vs H Q E → vs.length = (["names", "values"] : List Str).length := by
  intro vs H Q E h
  unfold sp_check_sizes at h
  split at h
  all_goals first | rfl | exact h.elim
theorem rd_check_sizes (T : Txt K mg) (vs : List V) (H : Hp) (Q : VK) (E : XK) (h : sp_check_sizes T vs H Q E) : t_check_sizes w T { nx := fun _ H' => Q .non H', rt := Q } (start ["names", "values", "name"] vs) H := by
  match vs, h with
  | [.ref a, .ref d], h =>
  obtain ⟨l, kv, ha, hd, hl, nd, hz, lz, hk, q⟩ := h
  have sz : sizeLine = 16777216 := rfl
  unfold t_check_sizes
  walk_at "st"
  repeat walk_at "w"
  refine ⟨kv, hd, hl, nd, hz, fun H1 s1 => ?_⟩
  repeat walk_at "w"
  have ha1 := CP.Same.to s1 ha
  refine ⟨a, rfl, ⟨_, .of ha1⟩, fun D hD => lc_noneL hD (.of ha1) (by rw [strL_len]; omega) (fun k z H8 hz s8 N no yes => ?_) fun H8 s8 hacc => ?_⟩
  · obtain ⟨w0, hw, rfl⟩ := strL_get hz
    obtain ⟨n, gn, n1⟩ := hk w0 (List.mem_of_getElem? hw)
    have hd8 := CP.Same.to s8 (CP.Same.to s1 hd)
    repeat walk_at "w"
    refine ⟨rfl, ?_⟩
    repeat walk_at "w"
    rw [dV_val, gn]
    repeat walk_at "w"
    refine if_nf ?_
    repeat walk_at "w"
    refine r_dgetS hd8 (by rw [dV_val, gn]; rfl) ?_
    repeat walk_at "w"
    rw [decide_eq_false (by omega)]
    repeat walk_at "w"
    exact no _ rfl (Same.refl _)
  repeat walk_at "w"
  rename_i L H9 L0 s9 hL
  refine nil_neX0 (.of (CP.Same.to s9 hacc)) (.of hL) ?_
  repeat walk_at "w"
  exact q _ ((s1.trans s8).trans s9)

theorem ok_check_sizes (T : Txt K mg) : FnOk P w K mg base CX0 3 T.a_check_sizes T.fd_check_sizes ["names", "values"] (sp_check_sizes T) :=
  T.F_check_sizes.ok sc_check_sizes (len_check_sizes T) fun cdv A outer s H vs Q E hr h => ⟨t_check_sizes w T, (pss_one (ps_if (PW.pt (pw_or (pt_not (pt_val (pe_call (ok_are_values T) (hr.mono (by decide)) (by rfl) T.m_are_values T.F_are_values.kp (b_are_values T) .nil pass0 (pa_cons (pv 1) pa_nil)))) (pw_or1 (pt_cmpR (op_neX hr.units) (pe_lc (own := [("name", 2)]) (g := (gName 2)) (tt := tOr (tB (tDNotIn (tVar 2) (tVar 1))) (tTest (tOp oLt (tDGet (tVar 1) (tVar 2)) (tC (.int 1))))) (te := tVar 2) rfl sc_check_sizes.nd (pi_list (pv 0)) (blkOk_by (own := [("name", 2)]) (N := ["names", "values", "name"]) (sc := defScope s_check_sizes) (by decide +kernel)) (fun _ _ _ _ _ => (pg_name (i := 2) sc_check_sizes.nd rfl (Or.inl rfl))) (fun _ _ _ _ _ => (pts_one (PW.pt (pw_or (pt_cmp (pc_dnotin (hu_of hr) (pv 2) (pv 1))) (pw_or1 (pt_cmpR op_lt (pe_dget (hu_of hr) (pv 1) (pv 2) (fun _ _ => rfl)) pe_int (nomark _))))))) (fun _ _ _ _ _ => (pv 2))) (pe_lst pa_nil) (nomark _))))) (pss_one ps_never) pss_nil)), rd_check_sizes T vs H Q E h⟩
end
end CP

namespace CP
open PySem L2
section
variable {P : Program} {w : World} {K : PySem.W.Frag} {mg : Str → Option Value} {base : Heap}
def sp_are_letters (_ : Txt K mg) : Sp := fun vs H Q _ => match vs with
  | [x] => ∃ a l, x = .ref a ∧ H a = some (.lst (strL l)) ∧ Lets l ∧ ∀ H', Same H H' → Q (.bl true) H'
  | _ => False
def t_are_letters (w : World) (T : Txt K mg) : TS := tRet (tAndV (tCB (rIsi K) (tCons (tVar 0) (tCons (tC (.ty "list")) (tNil)))) (tOp (rEqX K) (tLc (iList K (tVar 0)) (gName 1) (tNot (tB (tCall (sp_is_letter T) [] E0 (tCons (tVar 1) (tNil))))) (tVar 1) [1]) (tLst (tNil))))
theorem len_are_letters (T : Txt K mg) : ∀ (vs : List V) (H : Hp) (Q : VK) (E : XK), sp_are_letters T vs H Q E → vs.length = (["value"] : List Str).length := by
  intro vs H Q E h
  unfold sp_are_letters at h
  split at h
  all_goals first | rfl | exact h.elim
theorem rd_are_letters (T : Txt K mg) (vs : List V) (H : Hp) (Q : VK) (E : XK) (h : sp_are_letters T vs H Q E) : t_are_letters w T { nx := fun _ H' => Q .non H', rt := Q } (start ["value", "one"] vs) H := by
  match vs, h with
  | [x], h =>
  obtain ⟨a, l, rfl, ha, hl, q⟩ := h
  have sz : sizeLine = 16777216 := rfl
  have l5 := hl.2
  unfold t_are_letters
  walk_at "st"
  repeat walk_at "w"
  refine r_isi (n := "list") (tk_lst ha) (by decide) ?_
  have e1 : ("list" == "list" || "list" == "bool" && "list" == "int") = true := by decide
  rw [e1]
  refine ⟨true, rfl, if_t ?_⟩
  repeat walk_at "w"
  refine ⟨a, rfl, ⟨_, .of ha⟩, fun D hD => lc_tell (β := V) (fun _ x b => x = b) (l.map fun _ => none) hD (.of ha) (by rw [strL_len, List.length_map]) (by rw [List.length_map]; omega) (fun _ _ _ _ _ z => z) (fun i x o H' hx ho s1 _ N no yes => ?_) fun H1 acc s1 hacc pp => ?_⟩
  · obtain ⟨z, hz, rfl⟩ := strL_get hx
    have ho : o = none := by
      rw [List.getElem?_map, hz] at ho
      exact (Option.some.inj ho).symm
    subst ho
    have lz := hl.1 z (List.mem_of_getElem? hz)
    have zl := let_len lz
    repeat walk_at "w"
    refine ⟨rfl, ?_⟩
    repeat walk_at "w"
    refine ⟨"str", tk_str, .inr ⟨z, rfl, rfl, by omega, let_lay lz, fun H2 s2 => ?_⟩⟩
    rw [lz]
    repeat walk_at "w"
    exact no _ rfl s2
  · have e := pd_eq pp
    have e2 : acc = [] := by
      rw [e]
      generalize l = m
      induction m with
      | nil => rfl
      | cons _ m ih => exact ih
    rw [e2] at hacc
    repeat walk_at "w"
    rename_i L HL L0 sL hL
    refine nil_eqX (.of (CP.Same.to sL hacc)) (.of hL) ⟨[], .nil, by decide +kernel, by decide +kernel⟩ ?_
    exact q _ (s1.trans sL)

theorem ok_are_letters (T : Txt K mg) : FnOk P w K mg base CX0 2 T.a_are_letters T.fd_are_letters ["value"] (sp_are_letters T) :=
  T.F_are_letters.ok sc_are_letters (len_are_letters T) fun cdv A outer s H vs Q E hr h => ⟨t_are_letters w T, (pss_one (ps_ret (pe_and (pe_callB call_isi (by rfl) T.n_isinstance (by decide +kernel) (pa_cons (pv 0) (pa_cons (pe_bltn (v := .ty "list") (by rfl) T.n_list (by decide +kernel) rfl) pa_nil))) (pe_one (pe_cmpR (op_eqX hr.units) (pe_lc (own := [("one", 1)]) (g := (gName 1)) (tt := tNot (tB (tCall (sp_is_letter T) [] E0 (tCons (tVar 1) (tNil))))) (te := tVar 1) rfl sc_are_letters.nd (pi_list (pv 0)) (blkOk_by (own := [("one", 1)]) (N := ["value", "one"]) (sc := defScope s_are_letters) (by decide +kernel)) (fun _ _ _ _ _ => (pg_name (i := 1) sc_are_letters.nd rfl (Or.inl rfl))) (fun _ _ _ _ _ => (pts_one (pt_not (pt_val (pe_call (ok_is_letter T) (hr.mono (by decide)) (by rfl) T.m_is_letter T.F_is_letter.kp (b_is_letter T) .nil pass0 (pa_cons (pv 1) pa_nil)))))) (fun _ _ _ _ _ => (pv 1))) (pe_lst pa_nil) (nomark _)))))), rd_are_letters T vs H Q E h⟩
end
end CP

namespace CP
open PySem L2
section
variable {P : Program} {w : World} {K : PySem.W.Frag} {mg : Str → Option Value} {base : Heap}
def sp_are_named (_ : Txt K mg) : Sp := fun vs H Q _ => match vs with
  | [x] => ∃ p rows, x = .ref p ∧ RowsAt H p rows ∧ Rows rows ∧ ∀ H', Same H H' → Q (.bl true) H'
  | _ => False
def t_are_named (w : World) (T : Txt K mg) : TS := tSeq (tIfS (tOr (tNot (tB (tCB (rIsi K) (tCons (tVar 0) (tCons (tC (.ty "list")) (tNil)))))) (tTest (tOp (rEqX K) (tVar 0) (tLst (tNil))))) (tRet (tC (.bl false))) (tNext)) (tSeq (tAsg (tLst (tNil)) (gName 1)) (tSeq (tFor (iList K (tVar 0)) (gName 2) (tSeq (tIfS (tOr (tNot (tB (tCB (rIsi K) (tCons (tVar 2) (tCons (tC (.ty "tuple")) (tNil)))))) (tOr (tTest (tOp (rEqX K) (tVar 2) (tTup (tNil)))) (tOr (tNot (tB (tCall (sp_is_letter T) [] E0 (tCons (tOp (rIxT K) (tVar 2) (tC (.int 0))) (tNil))))) (tTest (tOp (rIn K false) (tOp (rIxT K) (tVar 2) (tC (.int 0))) (tVar 1)))))) (tRet (tC (.bl false))) (tNext)) (tSeq (tIfS (tTest (tOp (rNeX K) (tLc (iTup K (tSl (rSlA K) (tVar 2) (tPart (tC (.int 1))) tNoPart)) (gName 3) (tNot (tB (tCall (sp_are_letters T) [] E0 (tCons (tVar 3) (tNil))))) (tVar 3) [3]) (tLst (tNil)))) (tRet (tC (.bl false))) (tNext)) (tDrop (tBM K "list" rAppend (tVar 1) (tCons (tOp (rIxT K) (tVar 2) (tC (.int 0))) (tNil))))))) (tRet (tC (.bl true)))))
theorem len_are_named (T : Txt K mg) : ∀ (vs : List V) (H : Hp) (Q : VK) (E : XK), sp_are_named T vs H Q E → vs.length = (["value"] : List Str).length := by
  intro vs H Q E h
  unfold sp_are_named at h
  split at h
  all_goals first | rfl | exact h.elim
theorem rd_are_named (T : Txt K mg) (vs : List V) (H : Hp) (Q : VK) (E : XK) (h : sp_are_named T vs H Q E) : t_are_named w T { nx := fun _ H' => Q .non H', rt := Q } (start ["value", "names", "side", "part"] vs) H := by
  match vs, h with
  | [x], h =>
  obtain ⟨p, rows, rfl, ⟨vs, hp, pr⟩, hR, q⟩ := h
  have sz : sizeLine = 16777216 := rfl
  have few := hR.few
  have vl := pd_len pr
  unfold t_are_named
  walk_at "st"
  repeat walk_at "w"
  refine r_isi (n := "list") (tk_lst hp) (by decide) ?_
  have e1 : ("list" == "list" || "list" == "bool" && "list" == "int") = true := by decide
  rw [e1]
  repeat walk_at "w"
  rename_i L HL L0 sL hL
  have hp1 := CP.Same.to sL hp
  refine nil_eqX (.of hp1) (.of hL) (hR.dp (sides_mono pr sL)) ?_
  have ne : vs.isEmpty = false := by
    cases vs with
    | nil => exact absurd (List.length_eq_zero_iff.mp vl.symm) hR.ne
    | cons _ _ => rfl
  rw [ne]
  repeat walk_at "w"
  rename_i nm HN n0 sN hN
  have pN := sides_mono pr (sL.trans sN)
  have hpN := CP.Same.to sN hp1
  have S0 := sL.trans sN
  have F : H nm = none := sL.free n0
  have pL := sides_mono pr sL
  have hin : ∀ r ∈ rows, r.1 ∈ rows.map (·.1) := fun r hr => List.mem_map.mpr ⟨r, hr, rfl⟩
  refine ⟨p, rfl, ⟨_, .of hpN⟩, for_list (K := K) (a := p) (xs := vs) (fun i σ H' => Same HL H' ∧ H' nm = some (.lst (strL ((rows.take i).map (·.1)))) ∧ ∃ x2 x3, σ = [some (.ref p), some (.ref nm), x2, x3]) ⟨sN, hN, _, _, rfl⟩ (fun _ _ _ _ w => .of (CP.Same.to w.1 hp1)) ?_ ?_⟩
  · rintro i x σ H1 hx ⟨s1, h1, x2, x3, rfl⟩
    obtain ⟨r, t, a, b, hr, hm, rfl, ht, ha, hb⟩ := side_at pL s1 hx
    have ln := hR.name r hm
    have zl := let_len ln
    have la := hR.size r hm
    have lb := hR.step r hm
    repeat walk_at "w"
    refine r_isi (n := "tuple") (tk_tup ht) (by decide) ?_
    have e2 : ("tuple" == "tuple" || "tuple" == "bool" && "tuple" == "int") = true := by decide
    rw [e2]
    repeat walk_at "w"
    rename_i T1 H2 T0 s2 hT
    have sl := side_lay (let_lay ln) la.lay lb.lay
    refine tnil_eqX (.of (CP.Same.to s2 ht)) (.of hT) ⟨[.str r.1, .list (r.2.1.map .str), .list (r.2.2.map .str)], .cons (.str _) (.cons (.lst (.of (CP.Same.to s2 ha)) (dpA_strs _)) (.cons (.lst (.of (CP.Same.to s2 hb)) (dpA_strs _)) .nil)), ?_, ?_⟩ ?_
    · have := sl.1
      simp only [sideD, PyData.canLay0] at this
      exact this
    · have := sl.2
      simp only [sideD, PyData.depth] at this
      omega
    have e3 : ([V.str r.1, .ref a, .ref b] : List V).isEmpty = false := rfl
    rw [e3]
    have ht2 := CP.Same.to s2 ht
    have ha2 := CP.Same.to s2 ha
    have hb2 := CP.Same.to s2 hb
    have h12 := CP.Same.to s2 h1
    repeat walk_at "w"
    refine r_ixT (.of ht2) (v := .str r.1) (by rfl) ?_
    repeat walk_at "w"
    refine ⟨"str", tk_str, .inr ⟨r.1, rfl, rfl, by omega, let_lay ln, fun H3 s3 => ?_⟩⟩
    rw [ln]
    have ht3 := CP.Same.to s3 ht2
    have ha3 := CP.Same.to s3 ha2
    have hb3 := CP.Same.to s3 hb2
    have h13 := CP.Same.to s3 h12
    repeat walk_at "w"
    refine r_ixT (.of ht3) (v := .str r.1) (by rfl) ?_
    repeat walk_at "w"
    refine r_inStr (.of h13) ?_
    have no : r.1 ∉ (rows.take i).map (·.1) := fun z => by
      have := hR.dis
      rw [← List.take_append_drop i rows, List.map_append, List.nodup_append] at this
      refine this.2.2 _ z r.1 (List.mem_map.mpr ⟨r, ?_, rfl⟩) rfl
      rw [List.mem_drop_iff_getElem]
      obtain ⟨hi, e⟩ := List.getElem?_eq_some_iff.mp hr
      exact ⟨0, by omega, by simpa using e⟩
    rw [decide_eq_false no]
    repeat walk_at "w"
    refine r_slA (.of ht3) (fun z => absurd z.1 (by show ¬ (HT.sIx 3 0 (some 1) = 0); decide)) fun P H4 P0 s4 hP => ?_
    have ec : cutV [V.str r.1, .ref a, .ref b] (some 1) none = [.ref a, .ref b] := rfl
    rw [ec] at hP
    have ht4 := CP.Same.to s4 ht3
    have ha4 := CP.Same.to s4 ha3
    have hb4 := CP.Same.to s4 hb3
    have h14 := CP.Same.to s4 h13
    repeat walk_at "w"
    refine ⟨P, rfl, ⟨_, .of hP⟩, fun D hD => lc_tellT (β := V) (fun _ x b => x = b) [none, none] hD (.of hP) rfl (by show 2 < sizeLine; omega) (fun _ _ _ _ _ z => z) (fun j y o H5 hy ho s5 _ N no yes => ?_) fun H5 acc s5 hacc pp => ?_⟩
    · obtain ⟨u, l, rfl, hu, hl⟩ : ∃ u l, y = .ref u ∧ H5 u = some (.lst (strL l)) ∧ Lets l := by
        match j, hy with
        | 0, e => cases e; exact ⟨a, _, rfl, CP.Same.to s5 ha4, la⟩
        | 1, e => cases e; exact ⟨b, _, rfl, CP.Same.to s5 hb4, lb⟩
      have ho : o = none := by
        match j, ho with
        | 0, e => cases e; rfl
        | 1, e => cases e; rfl
      subst ho
      repeat walk_at "w"
      refine ⟨rfl, ?_⟩
      repeat walk_at "w"
      refine ⟨u, l, rfl, hu, hl, fun H6 s6 => ?_⟩
      repeat walk_at "w"
      exact no _ rfl s6
    have ea : acc = [] := pd_eq pp
    rw [ea] at hacc
    repeat walk_at "w"
    rename_i M H6 M0 s6 hM
    refine nil_neX0 (.of (CP.Same.to s6 hacc)) (.of hM) ?_
    repeat walk_at "w"
    have h16 := CP.Same.to s6 (CP.Same.to s5 h14)
    have ht6 := CP.Same.to s6 (CP.Same.to s5 ht4)
    have S := ((((s1.trans s2).trans s3).trans s4).trans s5).trans s6
    refine ⟨.inl ⟨rfl, _, .of h16⟩, ?_⟩
    repeat walk_at "w"
    refine r_ixT (.of ht6) (v := .str r.1) (by rfl) ?_
    repeat walk_at "w"
    refine r_app h16 (by rw [strL_len, List.length_map, List.length_take]; omega) fun H7 b7 h7 => ?_
    refine ⟨CP.Same.sb S n0 b7, ?_, _, _, rfl⟩
    rw [h7, take_succ hr, List.map_append, strL_app]
    rfl
  · rintro σ H1 ⟨s1, h1, x2, x3, rfl⟩
    repeat walk_at "w"
    exact q _ (sL.trans s1)

theorem ok_are_named (T : Txt K mg) : FnOk P w K mg base CX0 3 T.a_are_named T.fd_are_named ["value"] (sp_are_named T) :=
  T.F_are_named.ok sc_are_named (len_are_named T) fun cdv A outer s H vs Q E hr h => ⟨t_are_named w T, (pss_cons (ps_if (PW.pt (pw_or (pt_not (pt_val (pe_callB call_isi (by rfl) T.n_isinstance (by decide +kernel) (pa_cons (pv 0) (pa_cons (pe_bltn (v := .ty "list") (by rfl) T.n_list (by decide +kernel) rfl) pa_nil))))) (pw_or1 (pt_cmpR (op_eqX hr.units) (pv 0) (pe_lst pa_nil) (nomark _))))) (pss_one (ps_ret pe_bl)) pss_nil)
      (pss_cons (ps_set (i := 1) sc_are_named.nd rfl (Or.inl rfl) (pe_lst pa_nil))
      (pss_cons (ps_for PassesOwn.never rfl (pi_list (pv 0)) (pg_name (i := 2) sc_are_named.nd rfl (Or.inl rfl)) (pss_cons (ps_if (PW.pt (pw_or (pt_not (pt_val (pe_callB call_isi (by rfl) T.n_isinstance (by decide +kernel) (pa_cons (pv 2) (pa_cons (pe_bltn (v := .ty "tuple") (by rfl) T.n_tuple (by decide +kernel) rfl) pa_nil))))) (pw_or (pt_cmpR (op_eqX hr.units) (pv 2) (pe_tup pa_nil) (nomark _)) (pw_or (pt_not (pt_val (pe_call (ok_is_letter T) (hr.mono (by decide)) (by rfl) T.m_is_letter T.F_is_letter.kp (b_is_letter T) .nil pass0 (pa_cons (pe_ix ix_tup (pv 2) pe_int (fun _ _ => rfl)) pa_nil)))) (pw_or1 (pt_cmpR op_in_seq (pe_ix ix_tup (pv 2) pe_int (fun _ _ => rfl)) (pv 1) (by rfl))))))) (pss_one (ps_ret pe_bl)) pss_nil)
      (pss_cons (ps_if (pt_cmpR (op_neX hr.units) (pe_lc (own := [("part", 3)]) (g := (gName 3)) (tt := tNot (tB (tCall (sp_are_letters T) [] E0 (tCons (tVar 3) (tNil))))) (te := tVar 3) rfl sc_are_named.nd (pi_tup (pe_slice sl_tupA (pv 2) (po_some pe_int) po_none)) (blkOk_by (own := [("part", 3)]) (N := ["value", "names", "side", "part"]) (sc := defScope s_are_named) (by decide +kernel)) (fun _ _ _ _ _ => (pg_name (i := 3) sc_are_named.nd rfl (Or.inl rfl))) (fun _ _ _ _ _ => (pts_one (pt_not (pt_val (pe_call (ok_are_letters T) (hr.mono (by decide)) (by rfl) T.m_are_letters T.F_are_letters.kp (b_are_letters T) .nil pass0 (pa_cons (pv 3) pa_nil)))))) (fun _ _ _ _ _ => (pv 3))) (pe_lst pa_nil) (nomark _)) (pss_one (ps_ret pe_bl)) pss_nil)
      (pss_one (ps_expr (pe_bm PySem.F.plainAttrs_list PySem.F.slot_list_append PySem.F.type_list_append mt_append (pv 1) (pa_cons (pe_ix ix_tup (pv 2) pe_int (fun _ _ => rfl)) pa_nil)))))))
      (pss_one (ps_ret pe_bl))))), rd_are_named T vs H Q E h⟩
end
end CP

namespace CP
open PySem L2
section
variable {P : Program} {w : World} {K : PySem.W.Frag} {mg : Str → Option Value} {base : Heap}
def sp_are_sides (_ : Txt K mg) : Sp := fun vs H Q _ => match vs with
  | [x, .int n] => n = 2 ∧ ∃ p rows, x = .ref p ∧ RowsAt H p rows ∧ Rows rows ∧ ∀ H', Same H H' → Q (.bl true) H'
  | _ => False
def t_are_sides (w : World) (T : Txt K mg) : TS := tSeq (tIfS (tOr (tNot (tB (tCall (sp_are_named T) [] E0 (tCons (tVar 0) (tNil))))) (tTest (tOp (rNeX K) (tLc (iList K (tVar 0)) (gName 2) (tTest (tOp rNe (tCB (rLenA K) (tCons (tVar 2) (tNil))) (tOp oAdd (tVar 1) (tC (.int 1))))) (tVar 2) [2]) (tLst (tNil))))) (tRet (tC (.bl false))) (tNext)) (tSeq (tAsg (tLc (iList K (tVar 0)) (gName 2) (tYes) (tOp (rIxT K) (tVar 2) (tC (.int 0))) [2]) (gName 3)) (tSeq (tFor (iList K (tVar 0)) (gName 2) (tFor (iTup K (tSl (rSlA K) (tVar 2) (tPart (tC (.int 1))) tNoPart)) (gName 4) (tIfS (tTest (tOp (rNeX K) (tLc (iList K (tVar 4)) (gName 5) (tTest (tOp (rIn K false) (tVar 5) (tVar 3))) (tVar 5) [5]) (tLst (tNil)))) (tRet (tC (.bl false))) (tNext)))) (tRet (tC (.bl true)))))
theorem len_are_sides (T : Txt K mg) : ∀ (vs : List V) (H : Hp) (Q : VK) (E : XK), sp_are_sides T vs H Q E → vs.length = (["value", "parts"] : List Str).length := by
  intro vs H Q E h
  unfold sp_are_sides at h
  split at h
  all_goals first | rfl | exact h.elim
theorem rd_are_sides (T : Txt K mg) (vs : List V) (H : Hp) (Q : VK) (E : XK) (h : sp_are_sides T vs H Q E) : t_are_sides w T { nx := fun _ H' => Q .non H', rt := Q } (start ["value", "parts", "side", "names", "part", "one"] vs) H := by
  match vs, h with
  | [x, .int n], h =>
  obtain ⟨rfl, p, rows, rfl, ⟨vs, hp, pr⟩, hR, q⟩ := h
  have sz : sizeLine = 16777216 := rfl
  have few := hR.few
  have vl := pd_len pr
  unfold t_are_sides
  walk_at "st"
  repeat walk_at "w"
  refine ⟨p, rows, rfl, ⟨vs, hp, pr⟩, hR, fun H1 s1 => ?_⟩
  have p1 := sides_mono pr s1
  have hp1 := CP.Same.to s1 hp
  repeat walk_at "w"
  have vz : vs.length < sizeLine := by omega
  refine ⟨p, rfl, ⟨_, .of hp1⟩, fun D hD => lc_noneL hD (.of hp1) vz (fun i x H2 hx s2 N no yes => ?_) fun H2 s2 hacc => ?_⟩
  · obtain ⟨r, t, a, b, hr, hm, rfl, ht, ha, hb⟩ := side_at p1 s2 hx
    repeat walk_at "w"
    refine ⟨rfl, ?_⟩
    repeat walk_at "w"
    refine if_nd (fun k => absurd rfl k) fun _ => ?_
    exact no _ rfl (Same.refl _)
  repeat walk_at "w"
  rename_i M H3 M0 s3 hM
  refine nil_neX0 (.of (CP.Same.to s3 hacc)) (.of hM) ?_
  have p3 := sides_mono p1 (s2.trans s3)
  have hp3 := CP.Same.to s3 (CP.Same.to s2 hp1)
  have S3 := (s1.trans s2).trans s3
  clear hacc hM s2 s3
  repeat walk_at "w"
  refine ⟨p, rfl, ⟨_, .of hp3⟩, fun D hD => lc_valsL (strL (rows.map (·.1))) hD (.of hp3) (by rw [strL_len, List.length_map, vl]) (by rw [strL_len, List.length_map]; omega) (fun i x y H4 hx hy s4 N no yes => ?_) fun H4 s4 hN => ?_⟩
  · obtain ⟨r, t, a, b, hr, hm, rfl, ht, ha, hb⟩ := side_at p3 s4 hx
    have ey : y = .str r.1 := by
      unfold strL at hy
      rw [List.getElem?_map, List.getElem?_map, hr] at hy
      exact (Option.some.inj hy).symm
    subst ey
    repeat walk_at "w"
    refine ⟨rfl, r_yes (if_t ?_)⟩
    repeat walk_at "w"
    refine r_ixT (.of ht) (v := .str r.1) (by rfl) ?_
    exact yes _ _ _ rfl (Same.refl _) rfl
  have p4 := sides_mono p3 s4
  have hp4 := CP.Same.to s4 hp3
  repeat walk_at "w"
  refine ⟨p, rfl, ⟨_, .of hp4⟩, for_list (K := K) (a := p) (xs := vs) (fun i σ H' => Same H4 H' ∧ ∃ x2 x4 x5, σ = [some (.ref p), some (.int 2), x2, some (.ref D), x4, x5]) ⟨Same.refl _, _, _, _, rfl⟩ (fun _ _ _ _ w => .of (CP.Same.to w.1 hp4)) ?_ ?_⟩
  · rintro i x σ H5 hx ⟨s5, x2, x4, x5, rfl⟩
    obtain ⟨r, t, a, b, hr, hm, rfl, ht, ha, hb⟩ := side_at p4 s5 hx
    have hN5 := CP.Same.to s5 hN
    repeat walk_at "w"
    refine r_slA (.of ht) (fun z => absurd z.1 (by show ¬ (HT.sIx 3 0 (some 1) = 0); decide)) fun P H6 P0 s6 hP => ?_
    have ec : cutV [V.str r.1, .ref a, .ref b] (some 1) none = [.ref a, .ref b] := rfl
    rw [ec] at hP
    have ha6 := CP.Same.to s6 ha
    have hb6 := CP.Same.to s6 hb
    have hN6 := CP.Same.to s6 hN5
    repeat walk_at "w"
    refine ⟨P, rfl, ⟨_, .of hP⟩, for_tup (K := K) (a := P) (xs := [.ref a, .ref b]) (fun j σ H' => Same H6 H' ∧ ∃ x4 x5, σ = [some (.ref p), some (.int 2), some (.ref t), some (.ref D), x4, x5]) ⟨Same.refl _, _, _, rfl⟩ (fun _ _ _ _ w => .of (CP.Same.to w.1 hP)) ?_ ?_⟩
    · rintro j y σ H7 hy ⟨s7, x4, x5, rfl⟩
      obtain ⟨u, l, rfl, hu, hl, ho⟩ : ∃ u l, y = .ref u ∧ H7 u = some (.lst (strL l)) ∧ l.length ≤ 30 ∧ ∀ x ∈ l, x ∉ rows.map (·.1) := by
        match j, hy with
        | 0, e => cases e; exact ⟨a, _, rfl, CP.Same.to s7 ha6, (hR.size r hm).2, fun x hx => hR.out r hm x (List.mem_append_left _ hx)⟩
        | 1, e => cases e; exact ⟨b, _, rfl, CP.Same.to s7 hb6, (hR.step r hm).2, fun x hx => hR.out r hm x (List.mem_append_right _ hx)⟩
      have hN7 := CP.Same.to s7 hN6
      repeat walk_at "w"
      refine ⟨u, rfl, ⟨_, .of hu⟩, fun D2 hD2 => lc_noneL hD2 (.of hu) (by rw [strL_len]; omega) (fun k z H8 hz s8 N no yes => ?_) fun H8 s8 hacc => ?_⟩
      · obtain ⟨w0, hw, rfl⟩ := strL_get hz
        have nw := ho w0 (List.mem_of_getElem? hw)
        have hN8 := CP.Same.to s8 hN7
        repeat walk_at "w"
        refine ⟨rfl, ?_⟩
        repeat walk_at "w"
        refine r_inStr (.of hN8) ?_
        rw [decide_eq_false nw]
        repeat walk_at "w"
        exact no _ rfl (Same.refl _)
      repeat walk_at "w"
      rename_i L H9 L0 s9 hL
      refine nil_neX0 (.of (CP.Same.to s9 hacc)) (.of hL) ?_
      repeat walk_at "w"
      exact ⟨(s7.trans s8).trans s9, _, _, rfl⟩
    · rintro σ H7 ⟨s7, x4, x5, rfl⟩
      exact ⟨(s5.trans s6).trans s7, _, _, _, rfl⟩
  · rintro σ H5 ⟨s5, x2, x4, x5, rfl⟩
    repeat walk_at "w"
    exact q _ ((S3.trans s4).trans s5)

theorem ok_are_sides (T : Txt K mg) : FnOk P w K mg base CX0 4 T.a_are_sides T.fd_are_sides ["value", "parts"] (sp_are_sides T) :=
  T.F_are_sides.ok sc_are_sides (len_are_sides T) fun cdv A outer s H vs Q E hr h => ⟨t_are_sides w T, (pss_cons (ps_if (PW.pt (pw_or (pt_not (pt_val (pe_call (ok_are_named T) (hr.mono (by decide)) (by rfl) T.m_are_named T.F_are_named.kp (b_are_named T) .nil pass0 (pa_cons (pv 0) pa_nil)))) (pw_or1 (pt_cmpR (op_neX hr.units) (pe_lc (own := [("side", 2)]) (g := (gName 2)) (tt := tTest (tOp rNe (tCB (rLenA K) (tCons (tVar 2) (tNil))) (tOp oAdd (tVar 1) (tC (.int 1))))) (te := tVar 2) rfl sc_are_sides.nd (pi_list (pv 0)) (blkOk_by (own := [("side", 2)]) (N := ["value", "parts", "side", "names", "part", "one"]) (sc := defScope s_are_sides) (by decide +kernel)) (fun _ _ _ _ _ => (pg_name (i := 2) sc_are_sides.nd rfl (Or.inl rfl))) (fun _ _ _ _ _ => (pts_one (pt_cmpR op_ne (pe_callB call_lenA (by rfl) T.n_len (by decide +kernel) (pa_cons (pv 2) pa_nil)) (pe_op op_add (pv 1) pe_int) (nomark _)))) (fun _ _ _ _ _ => (pv 2))) (pe_lst pa_nil) (nomark _))))) (pss_one (ps_ret pe_bl)) pss_nil)
      (pss_cons (ps_set (i := 3) sc_are_sides.nd rfl (Or.inr rfl) (pe_lc (own := [("side", 2)]) (g := (gName 2)) (tt := tYes) (te := tOp (rIxT K) (tVar 2) (tC (.int 0))) rfl sc_are_sides.nd (pi_list (pv 0)) (blkOk_by (own := [("side", 2)]) (N := ["value", "parts", "side", "names", "part", "one"]) (sc := defScope s_are_sides) (by decide +kernel)) (fun _ _ _ _ _ => (pg_name (i := 2) sc_are_sides.nd rfl (Or.inl rfl))) (fun _ _ _ _ _ => pts_nil) (fun _ _ _ _ _ => (pe_ix ix_tup (pv 2) pe_int (fun _ _ => rfl)))))
      (pss_cons (ps_for PassesOwn.never rfl (pi_list (pv 0)) (pg_name (i := 2) sc_are_sides.nd rfl (Or.inl rfl)) (pss_one (ps_for PassesOwn.never rfl (pi_tup (pe_slice sl_tupA (pv 2) (po_some pe_int) po_none)) (pg_name (i := 4) sc_are_sides.nd rfl (Or.inl rfl)) (pss_one (ps_if (pt_cmpR (op_neX hr.units) (pe_lc (own := [("one", 5)]) (g := (gName 5)) (tt := tTest (tOp (rIn K false) (tVar 5) (tVar 3))) (te := tVar 5) rfl sc_are_sides.nd (pi_list (pv 4)) (blkOk_by (own := [("one", 5)]) (N := ["value", "parts", "side", "names", "part", "one"]) (sc := defScope s_are_sides) (by decide +kernel)) (fun _ _ _ _ _ => (pg_name (i := 5) sc_are_sides.nd rfl (Or.inl rfl))) (fun _ _ _ _ _ => (pts_one (pt_cmpR op_in_seq (pv 5) (pv 3) (by rfl)))) (fun _ _ _ _ _ => (pv 5))) (pe_lst pa_nil) (nomark _)) (pss_one (ps_ret pe_bl)) pss_nil)))))
      (pss_one (ps_ret pe_bl))))), rd_are_sides T vs H Q E h⟩
end
end CP

namespace CP
open PySem L2
section
variable {P : Program} {w : World} {K : PySem.W.Frag} {mg : Str → Option Value} {base : Heap}
def sp_valued (_ : Txt K mg) : Sp := fun vs H Q _ => match vs with
  | [.ref a, .ref d] => ∃ l kvs f, H a = some (.lst (strL l)) ∧ H d = some (.dK kvs) ∧ (∀ k ∈ l, valV kvs (Sum.inr k) = some (.int (f k)) ∧ 0 ≤ f k ∧ f k < 2 ^ 400) ∧ (∀ i, i ≤ l.length → prodF f (l.take i) < 2 ^ 400) ∧ Q (.int (prodF f l)) H
  | _ => False
def t_valued (w : World) (T : Txt K mg) : TS := tSeq (tAsg (tC (.int 1)) (gName 2)) (tSeq (tFor (iList K (tVar 0)) (gName 3) (tAsg (tOp oMul (tVar 2) (tDGet (tVar 1) (tVar 3))) (gName 2))) (tRet (tVar 2)))
theorem len_valued (T : Txt K mg) : ∀ (vs : List V) (H : Hp) (Q : VK) (E : XK), sp_valued T vs H Q E → vs.length = (["letters", "values"] : List Str).length := by
  intro vs H Q E h
  unfold sp_valued at h
  split at h
  all_goals first | rfl | exact h.elim
theorem rd_valued (T : Txt K mg) (vs : List V) (H : Hp) (Q : VK) (E : XK) (h : sp_valued T vs H Q E) : t_valued w T { nx := fun _ H' => Q .non H', rt := Q } (start ["letters", "values", "found", "name"] vs) H := by
  match vs, h with
  | [.ref a, .ref d], h =>
  obtain ⟨l, kvs, f, ha, hd, hf, hz, q⟩ := h
  have sz : sizeLine = 16777216 := rfl
  unfold t_valued
  walk_at "st"
  repeat walk_at "w"
  refine ⟨a, rfl, ⟨_, .of ha⟩, for_list (K := K) (a := a) (xs := strL l) (fun i σ H' => H' = H ∧ ∃ x3, σ = [some (.ref a), some (.ref d), some (.int (prodF f (l.take i))), x3]) ⟨rfl, _, rfl⟩ (fun _ _ _ _ w => by rw [w.1]; exact .of ha) ?_ ?_⟩
  · rintro i x σ H2 hx ⟨rfl, x3, rfl⟩
    obtain ⟨k, hk, rfl⟩ := strL_get hx
    obtain ⟨g1, g2, g3⟩ := hf k (List.mem_of_getElem? hk)
    have b1 := hz i (by have := (List.getElem?_eq_some_iff.mp hk).1; omega)
    have b0 : 0 ≤ prodF f (l.take i) := prodF_pos fun x hx => (hf x (List.mem_of_mem_take hx)).2.1
    rw [take_succ hk, prodF_app]
    generalize prodF f (l.take i) = w at b0 b1 ⊢
    repeat walk_at "w"
    refine r_dgetS hd g1 ?_
    repeat walk_at "w"
    exact ⟨rfl, _, rfl⟩
  · rintro σ H2 ⟨rfl, x3, rfl⟩
    rw [strL_len, List.take_length]
    repeat walk_at "w"
    exact q

theorem ok_valued (T : Txt K mg) : FnOk P w K mg base CX0 1 T.a_valued T.fd_valued ["letters", "values"] (sp_valued T) :=
  T.F_valued.ok sc_valued (len_valued T) fun cdv A outer s H vs Q E hr h => ⟨t_valued w T, (pss_cons (ps_set (i := 2) sc_valued.nd rfl (Or.inl rfl) pe_int)
      (pss_cons (ps_for PassesOwn.never rfl (pi_list (pv 0)) (pg_name (i := 3) sc_valued.nd rfl (Or.inl rfl)) (pss_one (ps_set (i := 2) sc_valued.nd rfl (Or.inl rfl) (pe_op op_mulW (pv 2) (pe_dget (hu_of hr) (pv 1) (pv 3) (fun _ _ => rfl))))))
      (pss_one (ps_ret (pv 2))))), rd_valued T vs H Q E h⟩
end
end CP

namespace CP
open PySem L2
section
variable {P : Program} {w : World} {K : PySem.W.Frag} {mg : Str → Option Value} {base : Heap}
def sp_rest_of (_ : Txt K mg) : Sp := fun vs H Q _ => match vs with
  | [.ref a, .ref b] => ∃ l o, H a = some (.lst (strL l)) ∧ H b = some (.lst (strL o)) ∧ l.length ≤ 1000 ∧ o.length ≤ 1000 ∧ (∀ m p H', restOf l o = some m → H p = none → Same H H' → H' p = some (.lst (strL m)) → Q (.ref p) H') ∧ (∀ H', restOf l o = none → Same H H' → Q .non H')
  | _ => False
def t_rest_of (w : World) (T : Txt K mg) : TS := tSeq (tAsg (tCB ((oList K)) (tCons (tVar 0) (tNil))) (gName 2)) (tSeq (tFor (iList K (tVar 1)) (gName 3) (tSeq (tIfS (tTest (tOp (rIn K true) (tVar 3) (tVar 2))) (tRet (tC .non)) (tNext)) (tDrop (tBM K "list" rRemS (tVar 2) (tCons (tVar 3) (tNil)))))) (tRet (tVar 2)))
theorem len_rest_of (T : Txt K mg) : ∀ (vs : List V) (H : Hp) (Q : VK) (E : XK), sp_rest_of T vs H Q E → vs.length = (["letters", "others"] : List Str).length := by
  intro vs H Q E h
  unfold sp_rest_of at h
  split at h
  all_goals first | rfl | exact h.elim
theorem rd_rest_of (T : Txt K mg) (vs : List V) (H : Hp) (Q : VK) (E : XK) (h : sp_rest_of T vs H Q E) : t_rest_of w T { nx := fun _ H' => Q .non H', rt := Q } (start ["letters", "others", "left", "name"] vs) H := by
  match vs, h with
  | [.ref a, .ref b], h =>
  obtain ⟨l, o, ha, hb, hl, ho, q1, q2⟩ := h
  have sz : sizeLine = 16777216 := rfl
  unfold t_rest_of
  walk_at "st"
  repeat walk_at "w"
  rename_i p H1 p0 s1 hp
  refine ⟨b, rfl, ⟨_, .of (CP.Same.to s1 hb)⟩, for_list (K := K) (a := b) (xs := strL o) (fun i σ H' => Same H H' ∧ (∃ m, H' p = some (.lst (strL m)) ∧ m.length ≤ l.length ∧ restOf l o = restOf m (o.drop i)) ∧ ∃ x3, σ = [some (.ref a), some (.ref b), some (.ref p), x3]) ⟨s1, ⟨l, hp, Nat.le_refl _, rfl⟩, _, rfl⟩ (fun _ _ _ _ w => .of (CP.Same.to w.1 hb)) ?_ ?_⟩
  · rintro i x σ H2 hx ⟨s2, ⟨m, hm, ml, e⟩, x3, rfl⟩
    obtain ⟨k, hk, rfl⟩ := strL_get hx
    rw [drop_succ hk, restOf] at e
    repeat walk_at "w"
    refine r_niStr (.of hm) ?_
    by_cases hm2 : k ∈ m
    · rw [decide_eq_true hm2]
      repeat walk_at "w"
      refine ⟨.inl ⟨rfl, _, .of hm⟩, ?_⟩
      repeat walk_at "w"
      refine r_remS hm hm2 fun H3 b3 h3 => ?_
      repeat walk_at "w"
      exact ⟨CP.Same.sb s2 p0 b3, ⟨_, h3, by have := List.length_erase_le (a := k) (l := m); omega, by rw [e, if_pos hm2]⟩, _, rfl⟩
    · rw [decide_eq_false hm2]
      repeat walk_at "w"
      exact q2 _ (by rw [e, if_neg hm2]) s2
  · rintro σ H2 ⟨s2, ⟨m, hm, ml, e⟩, x3, rfl⟩
    rw [strL_len, List.drop_length] at e
    repeat walk_at "w"
    exact q1 m p H2 e p0 s2 hm

theorem ok_rest_of (T : Txt K mg) : FnOk P w K mg base CX0 1 T.a_rest_of T.fd_rest_of ["letters", "others"] (sp_rest_of T) :=
  T.F_rest_of.ok sc_rest_of (len_rest_of T) fun cdv A outer s H vs Q E hr h => ⟨t_rest_of w T, (pss_cons (ps_set (i := 2) sc_rest_of.nd rfl (Or.inl rfl) (pe_callTy call_listA (by rfl) T.n_list (by decide +kernel) (pa_cons (pv 0) pa_nil)))
      (pss_cons (ps_for PassesOwn.never rfl (pi_list (pv 1)) (pg_name (i := 3) sc_rest_of.nd rfl (Or.inl rfl)) (pss_cons (ps_if (pt_cmpR op_notIn_seq (pv 3) (pv 2) (by rfl)) (pss_one (ps_ret pe_non)) pss_nil)
      (pss_one (ps_expr (pe_bm PySem.F.plainAttrs_list PySem.F.slot_list_remove PySem.F.type_list_remove mt_remS (pv 2) (pa_cons (pv 3) pa_nil))))))
      (pss_one (ps_ret (pv 2))))), rd_rest_of T vs H Q E h⟩
end
end CP

namespace CP
open PySem L2
section
variable {P : Program} {w : World} {K : PySem.W.Frag} {mg : Str → Option Value} {base : Heap}
def sp_Plain___init (T : Txt K mg) : Sp := fun vs H Q _ => match vs with
  | [.ref o, x] => ∃ dx p rows, x = .ref p ∧ H o = some (.ins T.a_Plain dx []) ∧ RowsAt H p rows ∧ Rows rows ∧ ∀ H', SB o H H' → TabAt T.a_Plain H' o (rows.map srow) → Q .non H'
  | _ => False
def t_Plain___init (w : World) (T : Txt K mg) : TS := tSeq (tIfS (tNot (tB (tCall (sp_are_sides T) [] E0 (tCons (tVar 1) (tCons (tC (.int 2)) (tNil)))))) (tNever) (tNext)) (sFld K (tVar 0) (tLc (iList K (tVar 1)) (gTup K 3 (gCons (gName 2) (gCons (gName 3) (gCons (gName 4) gNil)))) (tYes) (tTup (tCons (tVar 2) (tCons (tCB (rSortedS K) (tCons (tVar 3) (tNil))) (tCons (tCB (rSortedS K) (tCons (tVar 4) (tNil))) (tNil))))) [2, 3, 4]) "row")
theorem len_Plain___init (T : Txt K mg) : ∀ (vs : List V) (H : Hp) (Q : VK) (E : XK), sp_Plain___init T vs H Q E → vs.length = (["self", "sides"] : List Str).length := by
  intro vs H Q E h
  unfold sp_Plain___init at h
  split at h
  all_goals first | rfl | exact h.elim
theorem rd_Plain___init (T : Txt K mg) (vs : List V) (H : Hp) (Q : VK) (E : XK) (h : sp_Plain___init T vs H Q E) : t_Plain___init w T { nx := fun _ H' => Q .non H', rt := Q } (start ["self", "sides", "name", "size", "step"] vs) H := by
  match vs, h with
  | [.ref o, x], h =>
  obtain ⟨dx, p, rows, rfl, ho, hp, hR, q⟩ := h
  have sz : sizeLine = 16777216 := rfl
  have few := hR.few
  unfold t_Plain___init
  walk_at "st"
  repeat walk_at "w"
  refine ⟨rfl, p, rows, rfl, hp, hR, fun H1 s1 => ?_⟩
  obtain ⟨vs, hp1, pr⟩ := hp.mono s1
  have vl := pd_len pr
  have ho1 := CP.Same.to s1 ho
  repeat walk_at "w"
  refine ⟨p, rfl, ⟨_, .of hp1⟩, fun D hD => lc_tell (β := Sd) SideAt ((rows.map srow).map some) hD (.of hp1) (by simp [vl]) (by simp; omega) (fun _ _ _ _ s z => SideAt.mono z s) (fun i x y H2 hx hy s2 hacc N no yes => ?_) fun H2 acc s2 hacc pp => ?_⟩
  · obtain ⟨r, t, a, b, hr, hm, rfl, ht, ha, hb⟩ := side_at pr s2 hx
    have ey : y = some (srow r) := by
      rw [List.getElem?_map, List.getElem?_map, hr] at hy
      exact (Option.some.inj hy).symm
    subst ey
    obtain ⟨acc, hacc⟩ := hacc
    have la := (hR.size r hm).2
    have lb := (hR.step r hm).2
    repeat walk_at "w"
    refine ⟨rfl, r_yes (if_t ?_)⟩
    repeat walk_at "w"
    refine r_sortS (.of ha) (by omega) fun a2 H3 a20 s3 ha2 => ?_
    repeat walk_at "w"
    refine r_sortS (.of (CP.Same.to s3 hb)) (by omega) fun b2 H4 b20 s4 hb2 => ?_
    repeat walk_at "w"
    rename_i t5 H5 t50 s5 ht5
    have hD3 := CP.Same.to s3 hacc
    have hD4 := CP.Same.to s4 hD3
    refine yes H5 _ _ rfl ((s3.trans s4).trans s5) ⟨t5, a2, b2, rfl, ?_, ?_, ?_⟩
    · rw [hide_ne (ne_of_none hD4 t50).symm]; exact ht5
    · rw [hide_ne (ne_of_none hacc a20).symm]; exact CP.Same.to s5 (CP.Same.to s4 ha2)
    · rw [hide_ne (ne_of_none hD3 b20).symm]; exact CP.Same.to s5 hb2
  have ef : ((rows.map srow).map some).filterMap id = rows.map srow := by
    rw [List.filterMap_map]
    exact List.filterMap_some
  rw [ef] at pp
  have ho2 := CP.Same.to s2 ho1
  have oD : D ≠ o := (ne_of_none ho1 hD).symm
  repeat walk_at "w"
  refine r_fput ho2 T.c_Plain T.n_Plain_row (by decide) fun H3 b3 h3 => ?_
  refine q H3 (fun b u hb e => b3 b u hb (s2 _ _ (s1 _ _ e))) ⟨dx, D, h3, acc, b3 _ _ oD hacc, ?_⟩
  refine pd_mono pp fun v r z => ?_
  obtain ⟨t, a, b, e, h1, h2, h3⟩ := z
  have nt : ∀ {c u}, H2 c = some u → u ≠ .ins T.a_Plain dx [] → c ≠ o := fun {c u} h n e => n (by rw [e, ho2] at h; exact (Option.some.inj h).symm)
  exact ⟨t, a, b, e, b3 _ _ (nt h1 (fun z => nomatch z)) h1, b3 _ _ (nt h2 (fun z => nomatch z)) h2, b3 _ _ (nt h3 (fun z => nomatch z)) h3⟩

theorem ok_Plain___init (T : Txt K mg) : FnOk P w K mg base CX0 5 T.a_Plain___init T.fd_Plain___init ["self", "sides"] (sp_Plain___init T) :=
  T.F_Plain___init.ok sc_Plain___init (len_Plain___init T) fun cdv A outer s H vs Q E hr h => ⟨t_Plain___init w T, (pss_cons (ps_if (pt_not (pt_val (pe_call (ok_are_sides T) (hr.mono (by decide)) (by rfl) T.m_are_sides T.F_are_sides.kp (b_are_sides T) .nil pass0 (pa_cons (pv 1) (pa_cons pe_int pa_nil))))) (pss_one ps_never) pss_nil)
      (pss_one (ps_fld (pv 0) (pe_lc (own := [("name", 2), ("size", 3), ("step", 4)]) (g := (gTup K 3 (gCons (gName 2) (gCons (gName 3) (gCons (gName 4) gNil))))) (tt := tYes) (te := tTup (tCons (tVar 2) (tCons (tCB (rSortedS K) (tCons (tVar 3) (tNil))) (tCons (tCB (rSortedS K) (tCons (tVar 4) (tNil))) (tNil))))) rfl sc_Plain___init.nd (pi_list (pv 1)) (blkOk_by (own := [("name", 2), ("size", 3), ("step", 4)]) (N := ["self", "sides", "name", "size", "step"]) (sc := defScope s_Plain___init) (by decide +kernel)) (fun _ _ _ _ _ => (pg_tup rfl (pgs_cons (pg_name (i := 2) sc_Plain___init.nd rfl (Or.inl rfl)) (pgs_cons (pg_name (i := 3) sc_Plain___init.nd rfl (Or.inl rfl)) (pgs_cons (pg_name (i := 4) sc_Plain___init.nd rfl (Or.inl rfl)) pgs_nil))))) (fun _ _ _ _ _ => pts_nil) (fun _ _ _ _ _ => (pe_tup (pa_cons (pv 2) (pa_cons (pe_callB cr_sortedS (by rfl) T.n_sorted (by decide +kernel) (pa_cons (pv 3) pa_nil)) (pa_cons (pe_callB cr_sortedS (by rfl) T.n_sorted (by decide +kernel) (pa_cons (pv 4) pa_nil)) pa_nil)))))) rfl))), rd_Plain___init T vs H Q E h⟩
end
end CP

namespace CP
open PySem L2
section
variable {P : Program} {w : World} {K : PySem.W.Frag} {mg : Str → Option Value} {base : Heap}
def sp_Plain_sizes (T : Txt K mg) : Sp := fun vs H Q _ => match vs with
  | [.ref o] => ∃ rows, TabAt T.a_Plain H o rows ∧ Rows rows ∧ ∀ p H', H p = none → Same H H' → H' p = some (.lst (strL (sizesM rows))) → Q (.ref p) H'
  | _ => False
def t_Plain_sizes (w : World) (T : Txt K mg) : TS := tSeq (tAsg (tLst (tNil)) (gName 1)) (tSeq (tFor (iList K (tFld K (tVar 0) "row")) (gTup K 3 (gCons (gName 2) (gCons (gName 3) (gCons (gName 4) gNil)))) (tAsg (tOp rCat (tVar 1) (tLc (iList K (tOp rCat (tVar 3) (tVar 4))) (gName 5) (tTest (tOp (rIn K true) (tVar 5) (tVar 1))) (tVar 5) [5])) (gName 1))) (tRet (tCB (rSortT w) (tCons (tCB (rSetT K w) (tCons (tVar 1) (tNil))) (tNil)))))
theorem len_Plain_sizes (T : Txt K mg) : ∀ (vs : List V) (H : Hp) (Q : VK) (E : XK), sp_Plain_sizes T vs H Q E → vs.length = (["self"] : List Str).length := by
  intro vs H Q E h
  unfold sp_Plain_sizes at h
  split at h
  all_goals first | rfl | exact h.elim
theorem rd_Plain_sizes (T : Txt K mg) (vs : List V) (H : Hp) (Q : VK) (E : XK) (h : sp_Plain_sizes T vs H Q E) : t_Plain_sizes w T { nx := fun _ H' => Q .non H', rt := Q } (start ["self", "found", "name", "size", "step", "one"] vs) H := by
  match vs, h with
  | [.ref o], h =>
  obtain ⟨rows, ⟨dx, p, ho, vs, hp, pr⟩, hR, q⟩ := h
  have sz : sizeLine = 16777216 := rfl
  have few := hR.few
  have vl := pd_len pr
  unfold t_Plain_sizes
  walk_at "st"
  repeat walk_at "w"
  rename_i f0 H1 f00 s1 hf0
  have ho1 := CP.Same.to s1 ho
  have hp1 := CP.Same.to s1 hp
  have p1 := sides_mono pr s1
  refine r_fget ho1 T.c_Plain T.n_Plain_row (by rfl) ?_
  refine ⟨p, rfl, ⟨_, .of hp1⟩, for_list (K := K) (a := p) (xs := vs) (fun i σ H' => Same H1 H' ∧ (∃ f l, H' f = some (.lst (strL l)) ∧ l.length ≤ 60 * i ∧ (∀ x, x ∈ l ↔ x ∈ (rows.take i).flatMap fun r => r.2.1 ++ r.2.2) ∧ σ[1]? = some (some (.ref f))) ∧ ∃ x1 x2 x3 x4 x5, σ = [some (.ref o), x1, x2, x3, x4, x5]) ⟨Same.refl _, ⟨f0, [], hf0, by simp, by simp, rfl⟩, _, _, _, _, _, rfl⟩ (fun _ _ _ _ w => .of (CP.Same.to w.1 hp1)) ?_ ?_⟩
  · rintro i x σ H2 hx ⟨s2, ⟨f, l, hf, hl, hm, hσ⟩, x1, x2, x3, x4, x5, rfl⟩
    obtain ⟨rfl⟩ : x1 = some (.ref f) := Option.some.inj hσ
    obtain ⟨r, t, a, b, hr, hm2, rfl, ht, ha, hb⟩ := side_at p1 s2 hx
    have la := (hR.size r hm2).2
    have lb := (hR.step r hm2).2
    have hi : i < rows.length := (List.getElem?_eq_some_iff.mp hr).1
    repeat walk_at "w"
    refine r_cat ha hb (by rw [strL_len, strL_len]; omega) fun c H3 c0 s3 hc => ?_
    rw [← strL_app] at hc
    have hf3 := CP.Same.to s3 hf
    refine ⟨c, rfl, ⟨_, .of hc⟩, fun D hD => lc_strF (fun y => !decide (y ∈ l)) hD (.of hc) (by rw [List.length_append]; omega) (fun k y H4 hy s4 N no yes => ?_) fun H4 s4 hacc => ?_⟩
    · repeat walk_at "w"
      refine ⟨rfl, ?_⟩
      repeat walk_at "w"
      refine r_niStr (.of (CP.Same.to s4 hf3)) ?_
      repeat walk_at "w"
      dsimp only at no yes
      cases e : decide (y ∈ l) with
      | true => rw [e] at no; exact if_nf (no _ rfl (Same.refl _))
      | false =>
        rw [e] at yes
        refine if_nt ?_
        repeat walk_at "w"
        exact yes _ _ _ rfl (Same.refl _) rfl
    have hf4 := CP.Same.to s4 hf3
    refine r_cat hf4 hacc (by rw [strL_len, strL_len]; have := List.length_filter_le (fun y => !decide (y ∈ l)) (r.2.1 ++ r.2.2); rw [List.length_append] at this; omega) fun e H5 e0 s5 he => ?_
    rw [← strL_app] at he
    repeat walk_at "w"
    refine ⟨((s2.trans s3).trans s4).trans s5, ⟨e, _, he, ?_, fun y => ?_, rfl⟩, _, _, _, _, _, rfl⟩
    · have := List.length_filter_le (fun y => !decide (y ∈ l)) (r.2.1 ++ r.2.2)
      rw [List.length_append] at this ⊢
      omega
    · rw [take_succ hr, List.flatMap_append, List.mem_append, List.mem_append, ← hm, List.mem_filter]
      simp only [List.flatMap_cons, List.flatMap_nil, List.append_nil]
      by_cases k : y ∈ l
      · simp [k]
      · simp [k]
  · rintro σ H2 ⟨s2, ⟨f, l, hf, hl, hm, hσ⟩, x1, x2, x3, x4, x5, rfl⟩
    obtain ⟨rfl⟩ : x1 = some (.ref f) := Option.some.inj hσ
    rw [vl, List.take_length] at hm
    repeat walk_at "w"
    refine r_sortSetT (.of hf) (by omega) fun ys p3 H3 h1 h2 h3 s3 h4 h5 => ?_
    have e : ys = sizesM rows := sset_of h1 h2 fun x => (h3 x).trans (hm x)
    rw [e] at h5
    exact q p3 H3 ((s1.trans s2).free h4) ((s1.trans s2).trans s3) h5

theorem ok_Plain_sizes (T : Txt K mg) : FnOk P w K mg base CX0 1 T.a_Plain_sizes T.fd_Plain_sizes ["self"] (sp_Plain_sizes T) :=
  T.F_Plain_sizes.ok sc_Plain_sizes (len_Plain_sizes T) fun cdv A outer s H vs Q E hr h => ⟨t_Plain_sizes w T, (pss_cons (ps_set (i := 1) sc_Plain_sizes.nd rfl (Or.inr rfl) (pe_lst pa_nil))
      (pss_cons (ps_for PassesOwn.never rfl (pi_list (pe_fld (pv 0) rfl)) (pg_tup rfl (pgs_cons (pg_name (i := 2) sc_Plain_sizes.nd rfl (Or.inl rfl)) (pgs_cons (pg_name (i := 3) sc_Plain_sizes.nd rfl (Or.inl rfl)) (pgs_cons (pg_name (i := 4) sc_Plain_sizes.nd rfl (Or.inl rfl)) pgs_nil)))) (pss_one (ps_set (i := 1) sc_Plain_sizes.nd rfl (Or.inr rfl) (pe_op op_cat (pv 1) (pe_lc (own := [("one", 5)]) (g := (gName 5)) (tt := tTest (tOp (rIn K true) (tVar 5) (tVar 1))) (te := tVar 5) rfl sc_Plain_sizes.nd (pi_list (pe_op op_cat (pv 3) (pv 4))) (blkOk_by (own := [("one", 5)]) (N := ["self", "found", "name", "size", "step", "one"]) (sc := defScope s_Plain_sizes) (by decide +kernel)) (fun _ _ _ _ _ => (pg_name (i := 5) sc_Plain_sizes.nd rfl (Or.inl rfl))) (fun _ _ _ _ _ => (pts_one (pt_cmpR op_notIn_seq (pv 5) (pv 1) (by rfl)))) (fun _ _ _ _ _ => (pv 5)))))))
      (pss_one (ps_ret (pe_callB (cr_sortT rfl) (by rfl) T.n_sorted (by decide +kernel) (pa_cons (pe_callTy (cr_setT rfl) (by rfl) T.n_set (by decide +kernel) (pa_cons (pv 1) pa_nil)) pa_nil)))))), rd_Plain_sizes T vs H Q E h⟩
end
end CP

namespace CP
open PySem L2
section
variable {P : Program} {w : World} {K : PySem.W.Frag} {mg : Str → Option Value} {base : Heap}
end
end CP

namespace CP
open PySem L2
section
variable {P : Program} {w : World} {K : PySem.W.Frag} {mg : Str → Option Value} {base : Heap}
def sp_check_table (T : Txt K mg) : Sp := fun vs H Q _ => match vs with
  | [.ref o] => ∃ dx fs, H o = some (.ins T.a_Plain dx fs) ∧ Q .non H
  | _ => False
def t_check_table (w : World) (T : Txt K mg) : TS := tIfS (tNot (tB (tCB (rIsi K) (tCons (tVar 0) (tCons (tC (.ref T.a_Plain)) (tNil)))))) (tNever) (tNext)
theorem len_check_table (T : Txt K mg) : ∀ (vs : List V) (H : Hp) (Q : VK) (E : XK), sp_check_table T vs H Q E → vs.length = (["table"] : List Str).length := by
  intro vs H Q E h
  unfold sp_check_table at h
  split at h
  all_goals first | rfl | exact h.elim
theorem rd_check_table (T : Txt K mg) (vs : List V) (H : Hp) (Q : VK) (E : XK) (h : sp_check_table T vs H Q E) : t_check_table w T { nx := fun _ H' => Q .non H', rt := Q } (start ["table"] vs) H := by
  match vs, h with
  | [.ref o], h =>
  obtain ⟨dx, fs, ho, q⟩ := h
  unfold t_check_table
  walk_at "st"
  repeat walk_at "w"
  refine r_isiC ho T.I_Plain ?_
  repeat walk_at "w"
  exact q

theorem ok_check_table (T : Txt K mg) : FnOk P w K mg base CX0 1 T.a_check_table T.fd_check_table ["table"] (sp_check_table T) :=
  T.F_check_table.ok sc_check_table (len_check_table T) fun cdv A outer s H vs Q E hr h => ⟨t_check_table w T, (pss_one (ps_if (pt_not (pt_val (pe_callB call_isi (by rfl) T.n_isinstance (by decide +kernel) (pa_cons (pv 0) (pa_cons (pe_glob (v := .ref T.a_Plain) (by rfl) T.m_Plain rfl) pa_nil))))) (pss_one ps_never) pss_nil)), rd_check_table T vs H Q E h⟩
end
end CP

namespace CP
open PySem L2
section
variable {P : Program} {w : World} {K : PySem.W.Frag} {mg : Str → Option Value} {base : Heap}
def sp_is_ahead (_ : Txt K mg) : Sp := fun vs H Q _ => match vs with
  | [x, y] => ∃ r s, SideAt H x r ∧ SideAt H y s ∧ r.2.1.length ≤ 100 ∧ r.2.2.length ≤ 100 ∧ s.2.2.length ≤ 1000 ∧ ∀ H', Same H H' → Q (.bl (aheadB r s)) H'
  | _ => False
def t_is_ahead (w : World) (T : Txt K mg) : TS := tRet (tOp rNotN (tCall (sp_rest_of T) [] E0 (tCons (tOp (rIxT K) (tVar 1) (tC (.int 2))) (tCons (tOp rCat (tOp (rIxT K) (tVar 0) (tC (.int 1))) (tOp (rIxT K) (tVar 0) (tC (.int 2)))) (tNil)))) (tC .non))
theorem len_is_ahead (T : Txt K mg) : ∀ (vs : List V) (H : Hp) (Q : VK) (E : XK), sp_is_ahead T vs H Q E → vs.length = (["one", "other"] : List Str).length := by
  intro vs H Q E h
  unfold sp_is_ahead at h
  split at h
  all_goals first | rfl | exact h.elim
theorem rd_is_ahead (T : Txt K mg) (vs : List V) (H : Hp) (Q : VK) (E : XK) (h : sp_is_ahead T vs H Q E) : t_is_ahead w T { nx := fun _ H' => Q .non H', rt := Q } (start ["one", "other"] vs) H := by
  match vs, h with
  | [x, y], h =>
  obtain ⟨r, s, ⟨t, a, b, rfl, h1, h2, h3⟩, ⟨u, c, d, rfl, g1, g2, g3⟩, l1, l2, l3, q⟩ := h
  have sz : sizeLine = 16777216 := rfl
  unfold t_is_ahead
  walk_at "st"
  repeat walk_at "w"
  refine r_ixT (.of g1) (v := .ref d) (by rfl) ?_
  repeat walk_at "w"
  refine r_ixT (.of h1) (v := .ref a) (by rfl) ?_
  repeat walk_at "w"
  refine r_ixT (.of h1) (v := .ref b) (by rfl) ?_
  refine r_cat h2 h3 (by rw [strL_len, strL_len]; omega) fun c2 H3 c0 s3 hc => ?_
  rw [← strL_app] at hc
  repeat walk_at "w"
  refine ⟨_, _, CP.Same.to s3 g3, hc, l3, by rw [List.length_append]; omega, fun m p H4 e p0 s4 hp => ?_, fun H4 e s4 => ?_⟩
  · repeat walk_at "w"
    have := q H4 (s3.trans s4)
    unfold aheadB at this
    rw [e] at this
    exact this
  · repeat walk_at "w"
    have := q H4 (s3.trans s4)
    unfold aheadB at this
    rw [e] at this
    exact this

theorem ok_is_ahead (T : Txt K mg) : FnOk P w K mg base CX0 2 T.a_is_ahead T.fd_is_ahead ["one", "other"] (sp_is_ahead T) :=
  T.F_is_ahead.ok sc_is_ahead (len_is_ahead T) fun cdv A outer s H vs Q E hr h => ⟨t_is_ahead w T, (pss_one (ps_ret (pe_cmpR op_notN1 (pe_call (ok_rest_of T) (hr.mono (by decide)) (by rfl) T.m_rest_of T.F_rest_of.kp (b_rest_of T) .nil pass0 (pa_cons (pe_ix ix_tup (pv 1) pe_int (fun _ _ => rfl)) (pa_cons (pe_op op_cat (pe_ix ix_tup (pv 0) pe_int (fun _ _ => rfl)) (pe_ix ix_tup (pv 0) pe_int (fun _ _ => rfl))) pa_nil))) pe_non (nomark _)))), rd_is_ahead T vs H Q E h⟩
end
end CP

namespace CP
open PySem L2
section
variable {P : Program} {w : World} {K : PySem.W.Frag} {mg : Str → Option Value} {base : Heap}
def sp_ordered (T : Txt K mg) : Sp := fun vs H Q _ => match vs with
  | [.ref o] => ∃ rows, TabAt T.a_Plain H o rows ∧ Rows rows ∧ match orderM rows with
    | .inl fs => ∀ t f ws H', H t = none → H f = none → Same H H' → H' t = some (.tup [.ref f, .non]) → H' f = some (.lst ws) → Paired (SideAt H') ws fs → Q (.ref t) H'
    | .inr (r, s) => ∀ t u x y H', H t = none → Same H H' → H' t = some (.tup [.non, .ref u]) → H' u = some (.tup [x, y]) → SideAt H' x r → SideAt H' y s → Q (.ref t) H'
  | _ => False
def t_ordered (w : World) (T : Txt K mg) : TS := tSeq (tAsg (tLst (tNil)) (gName 1)) (tSeq (tFor (iList K (tFld K (tVar 0) "row")) (gName 2) (tIfS (tTest (tOp (rNeX K) (tOp (rIxT K) (tVar 2) (tC (.int 1))) (tLst (tNil)))) (tSeq (tAsg (tCB (rLenA K) (tCons (tLc (iList K (tVar 1)) (gName 4) (tB (tCall (sp_is_ahead T) [] E0 (tCons (tVar 4) (tCons (tVar 2) (tNil))))) (tVar 4) [4]) (tNil))) (gName 3)) (tSeq (tAsg (tLc (iList K (tVar 1)) (gName 4) (tAnd (tNot (tB (tCall (sp_is_ahead T) [] E0 (tCons (tVar 4) (tCons (tVar 2) (tNil)))))) (tNot (tB (tCall (sp_is_ahead T) [] E0 (tCons (tVar 2) (tCons (tVar 4) (tNil))))))) (tVar 4) [4]) (gName 5)) (tSeq (tIfS (tTest (tOp (rNeX K) (tVar 5) (tLst (tNil)))) (tRet (tTup (tCons (tC .non) (tCons (tTup (tCons (tOp (rIxL K) (tVar 5) (tC (.int 0))) (tCons (tVar 2) (tNil)))) (tNil))))) (tNext)) (tDrop (tBM K "list" rInsL (tVar 1) (tCons (tVar 3) (tCons (tVar 2) (tNil)))))))) (tNext))) (tRet (tTup (tCons (tVar 1) (tCons (tC .non) (tNil))))))
theorem len_ordered (T : Txt K mg) : ∀ (vs : List V) (H : Hp) (Q : VK) (E : XK), sp_ordered T vs H Q E → vs.length = (["table"] : List Str).length := by
  intro vs H Q E h
  unfold sp_ordered at h
  split at h
  all_goals first | rfl | exact h.elim
theorem rd_ordered (T : Txt K mg) (vs : List V) (H : Hp) (Q : VK) (E : XK) (h : sp_ordered T vs H Q E) : t_ordered w T { nx := fun _ H' => Q .non H', rt := Q } (start ["table", "found", "side", "at", "one", "wrong"] vs) H := by
  match vs, h with
  | [.ref o], h =>
  obtain ⟨rows, ⟨dx, p, ho, vs, hp, pr⟩, hR, q⟩ := h
  have sz : sizeLine = 16777216 := rfl
  have few := hR.few
  have vl := pd_len pr
  unfold t_ordered
  walk_at "st"
  repeat walk_at "w"
  rename_i f0 H1 f00 s1 hf0
  have ho1 := CP.Same.to s1 ho
  have hp1 := CP.Same.to s1 hp
  have p1 := sides_mono pr s1
  refine r_fget ho1 T.c_Plain T.n_Plain_row (by rfl) ?_
  refine ⟨p, rfl, ⟨_, .of hp1⟩, for_list (K := K) (a := p) (xs := vs) (fun i σ H' => Same H H' ∧ (∃ ws fs, H' f0 = some (.lst ws) ∧ Paired (SideAt H) ws fs ∧ (∀ x ∈ fs, x ∈ rows) ∧ fs.length ≤ i ∧ orderM rows = ordGo fs (rows.drop i)) ∧ ∃ x2 x3 x4 x5, σ = [some (.ref o), some (.ref f0), x2, x3, x4, x5]) ⟨s1, ⟨[], [], hf0, .nil, by simp, by simp, rfl⟩, _, _, _, _, rfl⟩ (fun _ _ _ _ w => .of (CP.Same.to w.1 hp)) ?_ ?_⟩
  · rintro i x σ H2 hx ⟨s2, ⟨ws, fs, hw, pw, hfs, lf, e⟩, x2, x3, x4, x5, rfl⟩
    obtain ⟨r, t, a, b, hr, hm, rfl, ht0, ha0, hb0⟩ := side_at pr (Same.refl _) hx
    have ht := CP.Same.to s2 ht0
    have ha := CP.Same.to s2 ha0
    have hb := CP.Same.to s2 hb0
    have la := hR.size r hm
    have lb := hR.step r hm
    have sr : SideAt H2 (.ref t) r := ⟨t, a, b, rfl, ht, ha, hb⟩
    have hi : i < rows.length := (List.getElem?_eq_some_iff.mp hr).1
    rw [drop_succ hr, ordGo] at e
    repeat walk_at "w"
    refine r_ixT (.of ht) (v := .ref a) (by rfl) ?_
    repeat walk_at "w"
    rename_i L H3 L0 s3 hL
    by_cases nil : r.2.1 = []
    · rw [nil] at ha
      refine nil_neX0 (.of (CP.Same.to s3 ha)) (.of hL) ?_
      repeat walk_at "w"
      rw [if_pos nil] at e
      exact ⟨s2.trans s3, ⟨ws, fs, CP.Same.to s3 hw, pw, hfs, by omega, e⟩, _, _, _, _, rfl⟩
    rw [if_neg nil] at e
    refine nil_neX (.of (CP.Same.to s3 ha)) (.of hL) (strs_dp la.lay) ?_
    rw [show (strL r.2.1).isEmpty = false by
      cases h : r.2.1 with
      | nil => exact absurd h nil
      | cons _ _ => rfl]
    repeat walk_at "w"
    have hw3 := CP.Same.to s3 hw
    have pw3 := sides_mono pw (s2.trans s3)
    have S3 := s2.trans s3
    have sr3 := sr.mono s3
    have wl := pd_len pw
    have lz : fs.length < sizeLine := by omega
    have bd : ∀ x ∈ rows, x.2.1.length ≤ 100 ∧ x.2.2.length ≤ 100 ∧ x.2.2.length ≤ 1000 := fun x hx => by
      have := (hR.size x hx).2
      have := (hR.step x hx).2
      omega
    refine ⟨f0, rfl, ⟨_, .of hw3⟩, fun D hD => lc_sdF (fun f => aheadB f r) pw3 hD (.of hw3) lz (fun k y f H4 N hy hf sf s4 no yes => ?_) fun H4 acc s4 hacc pacc => ?_⟩
    · have fm := bd f (hfs f (List.mem_of_getElem? hf))
      repeat walk_at "w"
      refine ⟨rfl, ?_⟩
      repeat walk_at "w"
      refine ⟨f, r, sf, sr3.mono s4, fm.1, fm.2.1, (bd r hm).2.2, fun H5 s5 => ?_⟩
      repeat walk_at "w"
      cases c : aheadB f r with
      | false =>
        repeat walk_at "w"
        exact no _ c s5
      | true =>
        repeat walk_at "w"
        exact yes _ c s5
    have hw4 := CP.Same.to s4 hw3
    have pw4 := sides_mono pw3 s4
    have sr4 := sr3.mono s4
    have al := pd_len pacc
    repeat walk_at "w"
    refine ⟨f0, rfl, ⟨_, .of hw4⟩, fun D2 hD2 => lc_sdF (fun f => !aheadB f r && !aheadB r f) pw4 hD2 (.of hw4) lz (fun k y f H5 N hy hf sf s5 no yes => ?_) fun H5 bcc s5 hbcc pbcc => ?_⟩
    · have fm := bd f (hfs f (List.mem_of_getElem? hf))
      have rm := bd r hm
      repeat walk_at "w"
      refine ⟨rfl, ?_⟩
      repeat walk_at "w"
      refine ⟨f, r, sf, sr4.mono s5, fm.1, fm.2.1, rm.2.2, fun H6 s6 => ?_⟩
      repeat walk_at "w"
      cases c : aheadB f r with
      | true =>
        repeat walk_at "w"
        exact no _ (by simp only [c]; rfl) s6
      | false =>
        repeat walk_at "w"
        refine ⟨r, f, (sr4.mono s5).mono s6, sf.mono s6, rm.1, rm.2.1, fm.2.2, fun H7 s7 => ?_⟩
        repeat walk_at "w"
        cases d : aheadB r f with
        | true =>
          repeat walk_at "w"
          exact no _ (by simp only [c, d]; rfl) (s6.trans s7)
        | false =>
          repeat walk_at "w"
          exact yes _ (by simp only [c, d]; rfl) (s6.trans s7)
    have hw5 := CP.Same.to s5 hw4
    have pw5 := sides_mono pw4 s5
    have sr5 := sr4.mono s5
    repeat walk_at "w"
    rename_i M H6 M0 s6 hM
    have hw6 := CP.Same.to s6 hw5
    have pw6 := sides_mono pw5 s6
    have sr6 := sr5.mono s6
    have S6 := ((S3.trans s4).trans s5).trans s6
    cases ew : fs.filter (fun f => !aheadB f r && !aheadB r f) with
    | nil =>
      rw [ew] at e pbcc
      cases pbcc
      refine nil_neX0 (.of (CP.Same.to s6 hbcc)) (.of hM) ?_
      repeat walk_at "w"
      refine ⟨.inl ⟨rfl, _, .of hw6⟩, ?_⟩
      repeat walk_at "w"
      have fl := List.length_filter_le (fun f => aheadB f r) fs
      refine r_insL hw6 (by omega) (by omega) (by omega) fun H7 b7 h7 => ?_
      rw [Int.toNat_natCast, al] at h7
      refine ⟨CP.Same.sb S6 f00 b7, ⟨_, fs.take (fs.filter fun f => aheadB f r).length ++ [r] ++ fs.drop (fs.filter fun f => aheadB f r).length, h7, ?_, ?_, ?_, e⟩, _, _, _, _, rfl⟩
      · exact pd_app (pd_app (pd_take pw _) (pd_one ⟨t, a, b, rfl, ht0, ha0, hb0⟩)) (pd_drop pw _)
      · intro x hx
        rcases List.mem_append.mp hx with hx | hx
        · rcases List.mem_append.mp hx with hx | hx
          · exact hfs x (List.mem_of_mem_take hx)
          · rw [List.mem_singleton.mp hx]; exact hm
        · exact hfs x (List.mem_of_mem_drop hx)
      · rw [List.length_append, List.length_append, List.length_take, List.length_drop, List.length_singleton]
        omega
    | cons w0 ws0 =>
      rw [ew] at e pbcc
      cases pbcc with
      | cons sw _ =>
      refine nil_neX1 (.of (CP.Same.to s6 hbcc)) (.of hM) ?_ ?_
      · refine sides_dp (sides_mono (.cons sw ‹_›) s6) fun f hf => ?_
        have hf : f ∈ fs := (List.mem_filter.mp (by rw [ew]; exact hf : f ∈ fs.filter (fun f => !aheadB f r && !aheadB r f))).1
        exact ⟨hR.name f (hfs f hf), hR.size f (hfs f hf), hR.step f (hfs f hf)⟩
      repeat walk_at "w"
      refine r_ixL (.of (CP.Same.to s6 hbcc)) (atI_nat (j := 0) rfl) ?_
      repeat walk_at "w"
      rename_i u H7 u0 s7 hu t2 H8 t0 s8 ht2
      rw [e] at q
      exact q t2 u _ _ H8 ((S6.trans s7).free t0) ((S6.trans s7).trans s8) ht2 (CP.Same.to s8 hu) ((sw.mono s6).mono (s7.trans s8)) (sr6.mono (s7.trans s8))
  · rintro σ H2 ⟨s2, ⟨ws, fs, hw, pw, hfs, lf, e⟩, x2, x3, x4, x5, rfl⟩
    rw [vl, List.drop_length] at e
    repeat walk_at "w"
    rename_i t H3 t0 s3 ht
    rw [ordGo] at e
    rw [e] at q
    exact q t f0 ws H3 (s2.free t0) f00 (s2.trans s3) ht (CP.Same.to s3 hw) (sides_mono pw (s2.trans s3))

theorem ok_ordered (T : Txt K mg) : FnOk P w K mg base CX0 3 T.a_ordered T.fd_ordered ["table"] (sp_ordered T) :=
  T.F_ordered.ok sc_ordered (len_ordered T) fun cdv A outer s H vs Q E hr h => ⟨t_ordered w T, (pss_cons (ps_set (i := 1) sc_ordered.nd rfl (Or.inl rfl) (pe_lst pa_nil))
      (pss_cons (ps_for PassesOwn.never rfl (pi_list (pe_fld (pv 0) rfl)) (pg_name (i := 2) sc_ordered.nd rfl (Or.inr rfl)) (pss_one (ps_if (pt_cmpR (op_neX hr.units) (pe_ix ix_tup (pv 2) pe_int (fun _ _ => rfl)) (pe_lst pa_nil) (nomark _)) (pss_cons (ps_set (i := 3) sc_ordered.nd rfl (Or.inl rfl) (pe_callB call_lenA (by rfl) T.n_len (by decide +kernel) (pa_cons (pe_lc (own := [("one", 4)]) (g := (gName 4)) (tt := tB (tCall (sp_is_ahead T) [] E0 (tCons (tVar 4) (tCons (tVar 2) (tNil))))) (te := tVar 4) rfl sc_ordered.nd (pi_list (pv 1)) (blkOk_by (own := [("one", 4)]) (N := ["table", "found", "side", "at", "one", "wrong"]) (sc := defScope s_ordered) (by decide +kernel)) (fun _ _ _ _ _ => (pg_name (i := 4) sc_ordered.nd rfl (Or.inl rfl))) (fun _ _ _ _ _ => (pts_one (pt_val (pe_call (ok_is_ahead T) (hr.mono (by decide)) (by rfl) T.m_is_ahead T.F_is_ahead.kp (b_is_ahead T) .nil pass0 (pa_cons (pv 4) (pa_cons (pv 2) pa_nil)))))) (fun _ _ _ _ _ => (pv 4))) pa_nil)))
      (pss_cons (ps_setLc (i := 5) (own := [("one", 4)]) (g := (gName 4)) (tt := tAnd (tNot (tB (tCall (sp_is_ahead T) [] E0 (tCons (tVar 4) (tCons (tVar 2) (tNil)))))) (tNot (tB (tCall (sp_is_ahead T) [] E0 (tCons (tVar 2) (tCons (tVar 4) (tNil))))))) (te := tVar 4) rfl sc_ordered.nd rfl rfl (sw_true rfl rfl rfl (by decide +kernel)) (pi_list (pv 1)) (blkOk_by (own := [("one", 4)]) (N := ["table", "found", "side", "at", "one", "wrong"]) (sc := defScope s_ordered) (by decide +kernel)) (fun _ _ _ _ _ => (pg_name (i := 4) sc_ordered.nd rfl (Or.inl rfl))) (fun _ _ _ _ _ => (pts_one (PW.pt (pw_and (pt_not (pt_val (pe_call (ok_is_ahead T) (hr.mono (by decide)) (by rfl) T.m_is_ahead T.F_is_ahead.kp (b_is_ahead T) .nil pass0 (pa_cons (pv 4) (pa_cons (pv 2) pa_nil))))) (pw_and1 (pt_not (pt_val (pe_call (ok_is_ahead T) (hr.mono (by decide)) (by rfl) T.m_is_ahead T.F_is_ahead.kp (b_is_ahead T) .nil pass0 (pa_cons (pv 2) (pa_cons (pv 4) pa_nil)))))))))) (fun _ _ _ _ _ => (pv 4)))
      (pss_cons (ps_if (pt_cmpR (op_neX hr.units) (pv 5) (pe_lst pa_nil) (nomark _)) (pss_one (ps_ret (pe_tup (pa_cons pe_non (pa_cons (pe_tup (pa_cons (pe_ix ix_list (pv 5) pe_int (fun _ _ => rfl)) (pa_cons (pv 2) pa_nil))) pa_nil))))) pss_nil)
      (pss_one (ps_expr (pe_bm PySem.F.plainAttrs_list PySem.F.slot_list_insert PySem.F.type_list_insert mt_insL (pv 1) (pa_cons (pv 3) (pa_cons (pv 2) pa_nil)))))))) pss_nil)))
      (pss_one (ps_ret (pe_tup (pa_cons (pv 1) (pa_cons pe_non pa_nil))))))), rd_ordered T vs H Q E h⟩
end
end CP

namespace CP
open PySem L2
section
variable {P : Program} {w : World} {K : PySem.W.Frag} {mg : Str → Option Value} {base : Heap}
def sp_check_own (T : Txt K mg) : Sp := fun vs H Q _ => match vs with
  | [.ref o] => ∃ rows fs, TabAt T.a_Plain H o rows ∧ Rows rows ∧ orderM rows = .inl fs ∧ ∀ f ws H', H f = none → Same H H' → H' f = some (.lst ws) → Paired (SideAt H') ws fs → Q (.ref f) H'
  | _ => False
def t_check_own (w : World) (T : Txt K mg) : TS := tSeq (tAsg (tOp (rIxT K) (tCall (sp_ordered T) [] E0 (tCons (tVar 0) (tNil))) (tC (.int 0))) (gName 1)) (tSeq (tIfS (tTest (tOp rIsN (tVar 1) (tC .non))) (tNever) (tNext)) (tRet (tVar 1)))
theorem len_check_own (T : Txt K mg) : ∀ (vs : List V) (H : Hp) (Q : VK) (E : XK), sp_check_own T vs H Q E → vs.length = (["table"] : List Str).length := by
  intro vs H Q E h
  unfold sp_check_own at h
  split at h
  all_goals first | rfl | exact h.elim
theorem rd_check_own (T : Txt K mg) (vs : List V) (H : Hp) (Q : VK) (E : XK) (h : sp_check_own T vs H Q E) : t_check_own w T { nx := fun _ H' => Q .non H', rt := Q } (start ["table", "found"] vs) H := by
  match vs, h with
  | [.ref o], h =>
  obtain ⟨rows, fs, hT, hR, e, q⟩ := h
  unfold t_check_own
  walk_at "st"
  repeat walk_at "w"
  refine ⟨rows, hT, hR, ?_⟩
  rw [e]
  intro t f ws H1 t0 f0 s1 ht hf pw
  repeat walk_at "w"
  refine r_ixT (.of ht) (v := .ref f) (by rfl) ?_
  repeat walk_at "w"
  exact q f ws H1 f0 s1 hf pw

theorem ok_check_own (T : Txt K mg) : FnOk P w K mg base CX0 4 T.a_check_own T.fd_check_own ["table"] (sp_check_own T) :=
  T.F_check_own.ok sc_check_own (len_check_own T) fun cdv A outer s H vs Q E hr h => ⟨t_check_own w T, (pss_cons (ps_set (i := 1) sc_check_own.nd rfl (Or.inl rfl) (pe_ix ix_tup (pe_call (ok_ordered T) (hr.mono (by decide)) (by rfl) T.m_ordered T.F_ordered.kp (b_ordered T) .nil pass0 (pa_cons (pv 0) pa_nil)) pe_int (fun _ _ => rfl)))
      (pss_cons (ps_if (pt_cmpR op_isN1 (pv 1) pe_non (nomark _)) (pss_one ps_never) pss_nil)
      (pss_one (ps_ret (pv 1))))), rd_check_own T vs H Q E h⟩
end
end CP

namespace CP
open PySem L2
section
variable {P : Program} {w : World} {K : PySem.W.Frag} {mg : Str → Option Value} {base : Heap}
def sp_Store___init (T : Txt K mg) : Sp := fun vs H Q _ => match vs with
  | [.ref o, x, y] => ∃ tb d dx hi wi, x = .ref tb ∧ y = .ref d ∧ H o = some (.ins T.a_Store dx []) ∧ TabAt T.a_Plain H tb brd ∧ H d = some (.dK (dV (szV hi wi))) ∧ NumB hi wi ∧ ∀ H', SB o H H' → ShAt T H' o hi wi [] .non 0 → Q .non H'
  | _ => False
def t_Store___init (w : World) (T : Txt K mg) : TS := tSeq (tDrop (tCall (sp_check_table T) [] E0 (tCons (tVar 1) (tNil)))) (tSeq (tDrop (tCall (sp_check_sizes T) [] E0 (tCons (tMeth T.a_Plain "sizes" (sp_Plain_sizes T) [] E0 (tVar 1) tNil) (tCons (tVar 2) (tNil))))) (tSeq (tDrop (tCall (sp_check_own T) [] E0 (tCons (tVar 1) (tNil)))) (tSeq (sFld K (tVar 0) (tVar 1) "table") (tSeq (sFld K (tVar 0) (tTup (tCons (tDc (iList K (tMeth T.a_Plain "sizes" (sp_Plain_sizes T) [] E0 (tVar 1) tNil)) (gName 3) (tYes) (tVar 3) (tDGet (tVar 2) (tVar 3)) [3]) (tCons (tDNewT) (tNil)))) "state") (tSeq (sFld K (tVar 0) (tC .non) "most") (sFld K (tVar 0) (tLst (tNil)) "past"))))))
theorem len_Store___init (T : Txt K mg) : ∀ (vs : List V) (H : Hp) (Q : VK) (E : XK), sp_Store___init T vs H Q E → vs.length = (["self", "table", "values"] : List Str).length := by
  intro vs H Q E h
  unfold sp_Store___init at h
  split at h
  all_goals first | rfl | exact h.elim
theorem rd_Store___init (T : Txt K mg) (vs : List V) (H : Hp) (Q : VK) (E : XK) (h : sp_Store___init T vs H Q E) : t_Store___init w T { nx := fun _ H' => Q .non H', rt := Q } (start ["self", "table", "values", "name"] vs) H := by
  match vs, h with
  | [.ref o, x, y], h =>
  obtain ⟨tb, d, dx, hi, wi, rfl, rfl, ho, ht, hd, hb, q⟩ := h
  unfold t_Store___init
  walk_at "st"
  repeat walk_at "w"
  obtain ⟨dt, p, htb, hrows⟩ := id ht
  have ne : tb ≠ o := fun z => by
    rw [z, ho] at htb
    injection htb with e
    injection e with _ _ e
    cases e
  refine ⟨dt, _, htb, ?_⟩
  repeat walk_at "w"
  refine ⟨tb, dt, _, rfl, htb, by rfl, brd, ht, brd_ok, fun p1 H1 p10 s1 hp1 => ?_⟩
  rw [show sizesM brd = (["m", "n"] : List Str) from by decide +kernel] at hp1
  repeat walk_at "w"
  obtain ⟨n1, n2, n3, n4⟩ := id hb
  refine ⟨["m", "n"], szV hi wi, hp1, CP.Same.to s1 hd, fun w hw => ?_, (by show (["m", "n"] : List Str).Nodup; decide), by show (2 : Nat) < 2000; decide, by show (2 : Nat) < 2000; decide, fun k hk => ?_, fun H2 s2 => ?_⟩
  · rcases List.mem_cons.mp hw with e | hw
    · rw [e]; show letB "m" = true; decide +kernel
    · rw [List.mem_singleton.mp hw]; show letB "n" = true; decide +kernel
  · rcases List.mem_cons.mp hk with e | hk
    · rw [e]; exact ⟨hi, rfl, by omega⟩
    · rw [List.mem_singleton.mp hk]; exact ⟨wi, rfl, by omega⟩
  repeat walk_at "w"
  have s12 := s1.trans s2
  obtain ⟨fs, ef⟩ : ∃ fs, orderM brd = .inl fs := by
    have w : (match orderM brd with | .inl _ => true | .inr _ => false) = true := by decide +kernel
    cases e : orderM brd with
    | inl fs => exact ⟨fs, rfl⟩
    | inr _ => rw [e] at w; cases w
  refine ⟨brd, fs, ht.mono s12, brd_ok, ef, fun f ws H3 _ s3 _ _ => ?_⟩
  have s13 := s12.trans s3
  repeat walk_at "w"
  refine r_fput (CP.Same.to s13 ho) T.c_Store T.n_Store_table (by show (0 : Nat) < 1000; decide) fun H4 b4 h4 => ?_
  have ht4 : TabAt T.a_Plain H4 tb brd := by
    obtain ⟨dt, p, e1, ws, e2, e3⟩ := ht.mono s13
    have ho3 := CP.Same.to s13 ho
    exact ⟨dt, p, b4 _ _ ne e1, ws, b4 _ _ (fun w => by rw [w, ho3] at e2; cases e2) e2, pd_mono e3 fun v r ⟨t, a, b, e, x1, x2, x3⟩ => ⟨t, a, b, e, b4 _ _ (fun w => by rw [w, ho3] at x1; cases x1) x1, b4 _ _ (fun w => by rw [w, ho3] at x2; cases x2) x2, b4 _ _ (fun w => by rw [w, ho3] at x3; cases x3) x3⟩⟩
  have hd4 := b4 _ _ (fun w => by have z := CP.Same.to s13 hd; rw [w, CP.Same.to s13 ho] at z; cases z) (CP.Same.to s13 hd)
  repeat walk_at "w"
  obtain ⟨dt4, p4, htb4, _⟩ := id ht4
  refine ⟨tb, dt4, _, rfl, htb4, by rfl, ?_⟩
  repeat walk_at "w"
  refine ⟨brd, ht4, brd_ok, fun p5 H5 p50 s5 hp5 => ?_⟩
  rw [show sizesM brd = (["m", "n"] : List Str) from by decide +kernel] at hp5
  have hd5 := CP.Same.to s5 hd4
  refine ⟨p5, rfl, ⟨_, .of hp5⟩, fun D hD => dc_list (K := K) (xs := strL ["m", "n"]) (fun i H' => Same H5 H' ∧ H' D = some (.dK (dV ((szV hi wi).take i)))) ⟨same_new hD, upd_same⟩ (fun i H' _ w => .of (w.1 _ _ hp5)) (fun i x H6 hx w => ?_) fun H6 w => ?_⟩
  · have hd6 := CP.Same.to w.1 hd5
    match i, hx with
    | 0, hx =>
      cases hx
      repeat walk_at "w"
      refine ⟨rfl, r_yes (if_t ?_)⟩
      repeat walk_at "w"
      refine r_dgetS hd6 (sz_m hi wi) ?_
      exact ⟨_, Sum.inr "m", rfl, w.2, by show (0 : Nat) < 16777216; decide, fun b u e => (upd_ne (ne_of_none e hD)).trans (w.1 _ _ e), upd_same⟩
    | 1, hx =>
      cases hx
      repeat walk_at "w"
      refine ⟨rfl, r_yes (if_t ?_)⟩
      repeat walk_at "w"
      refine r_dgetS hd6 (sz_n hi wi) ?_
      exact ⟨_, Sum.inr "n", rfl, w.2, by show (1 : Nat) < 16777216; decide, fun b u e => (upd_ne (ne_of_none e hD)).trans (w.1 _ _ e), upd_same⟩
    | i + 2, hx => exact absurd hx (by simp [strL])
  obtain ⟨s6, hD6⟩ := w
  have hD6 : H6 D = some (.dK (dV (szV hi wi))) := hD6
  repeat walk_at "w"
  intro l l0
  have s7 : Same H6 (upd H6 l (.dT [])) := same_new l0
  have hl7 : (upd H6 l (.dT [])) l = some (.dT []) := upd_same
  generalize upd H6 l (.dT []) = H7 at s7 hl7 ⊢
  repeat walk_at "w"
  rename_i t8 H8 t80 s8 ht8
  have S8 := (s5.trans s6).trans (s7.trans s8)
  have h48 := CP.Same.to S8 h4
  refine r_fput h48 T.c_Store T.n_Store_state (by show (1 : Nat) < 1000; decide) fun H9 b9 h9 => ?_
  repeat walk_at "w"
  refine r_fput h9 T.c_Store T.n_Store_most (by show (2 : Nat) < 1000; decide) fun H10 b10 h10 => ?_
  repeat walk_at "w"
  rename_i l11 H11 l110 s11 hl11
  refine r_fput (CP.Same.to s11 h10) T.c_Store T.n_Store_past (by show (3 : Nat) < 1000; decide) fun H12 b12 h12 => ?_
  have keep : ∀ {b : Addr} {u : HO}, b ≠ o → H8 b = some u → H12 b = some u := fun {b u} n e => b12 _ _ n (s11 _ _ (b10 _ _ n (b9 _ _ n e)))
  have nin : ∀ {b : Addr} {u : HO}, H8 b = some u → (∀ fs, u ≠ .ins T.a_Store dx fs) → b ≠ o := fun {b u} e n w => by
    rw [w, h48] at e
    exact n _ (Option.some.inj e).symm
  have ht12 : TabAt T.a_Plain H12 tb brd := by
    obtain ⟨dt, p, e1, ws, e2, e3⟩ := ht4.mono S8
    exact ⟨dt, p, keep ne e1, ws, keep (nin e2 fun _ w => by cases w) e2, pd_mono e3 fun v r ⟨t, a, b, e, x1, x2, x3⟩ => ⟨t, a, b, e, keep (nin x1 fun _ w => by cases w) x1, keep (nin x2 fun _ w => by cases w) x2, keep (nin x3 fun _ w => by cases w) x3⟩⟩
  have n11 : l11 ≠ o := (ne_of_none h10 l110).symm
  refine q H12 (fun b u n e => keep n (S8 _ _ (b4 _ _ n (s13 _ _ e)))) ⟨tb, t8, l11, D, l, [], ⟨dx, h12⟩, ht12, ⟨keep (nin ht8 fun _ w => by cases w) ht8, ?_, ?_⟩, b12 _ _ n11 hl11, rfl⟩
  · have z := CP.Same.to s8 (CP.Same.to s7 hD6)
    exact keep (nin z fun _ w => by cases w) z
  · have z := CP.Same.to s8 hl7
    exact keep (nin z fun _ w => by cases w) z

theorem ok_Store___init (T : Txt K mg) : FnOk P w K mg base CX0 5 T.a_Store___init T.fd_Store___init ["self", "table", "values"] (sp_Store___init T) :=
  T.F_Store___init.ok sc_Store___init (len_Store___init T) fun cdv A outer s H vs Q E hr h => ⟨t_Store___init w T, (pss_cons (ps_expr (pe_call (ok_check_table T) (hr.mono (by decide)) (by rfl) T.m_check_table T.F_check_table.kp (b_check_table T) .nil pass0 (pa_cons (pv 1) pa_nil)))
      (pss_cons (ps_expr (pe_call (ok_check_sizes T) (hr.mono (by decide)) (by rfl) T.m_check_sizes T.F_check_sizes.kp (b_check_sizes T) .nil pass0 (pa_cons (pe_meth0 (pv 1) T.c_Plain T.M_Plain_sizes (ok_Plain_sizes T) (hr.mono (by decide)) (b_Plain_sizes T) .nil pass0) (pa_cons (pv 2) pa_nil))))
      (pss_cons (ps_expr (pe_call (ok_check_own T) (hr.mono (by decide)) (by rfl) T.m_check_own T.F_check_own.kp (b_check_own T) .nil pass0 (pa_cons (pv 1) pa_nil)))
      (pss_cons (ps_fld (pv 0) (pv 1) rfl)
      (pss_cons (ps_fld (pv 0) (pe_tup (pa_cons (pe_dc (own := [("name", 3)]) (g := (gName 3)) (tt := tYes) (tk := tVar 3) (tv := tDGet (tVar 2) (tVar 3)) rfl sc_Store___init.nd (pi_list (pe_meth0 (pv 1) T.c_Plain T.M_Plain_sizes (ok_Plain_sizes T) (hr.mono (by decide)) (b_Plain_sizes T) .nil pass0)) (blkOk_by (own := [("name", 3)]) (N := ["self", "table", "values", "name"]) (sc := defScope s_Store___init) (by decide +kernel)) (fun _ _ _ _ _ => (pg_name (i := 3) sc_Store___init.nd rfl (Or.inl rfl))) (fun _ _ _ _ _ => pts_nil) (fun _ _ _ _ _ => (pv 3)) (fun _ _ _ _ _ => (pe_dget (hu_of hr) (pv 2) (pv 3) (fun _ _ => rfl)))) (pa_cons pe_dnewT pa_nil))) rfl)
      (pss_cons (ps_fld (pv 0) pe_non rfl)
      (pss_one (ps_fld (pv 0) (pe_lst pa_nil) rfl)))))))), rd_Store___init T vs H Q E h⟩
end
end CP

namespace CP
open PySem L2
section
variable {P : Program} {w : World} {K : PySem.W.Frag} {mg : Str → Option Value} {base : Heap}
def sp_Store_limit (T : Txt K mg) : Sp := fun vs H Q _ => match vs with
  | [.ref o, .int n] => ∃ tb st pl m, ShO T H o tb st pl m ∧ 0 ≤ n ∧ ∀ H', SB o H H' → ShO T H' o tb st pl (.int n) → Q .non H'
  | _ => False
def t_Store_limit (w : World) (T : Txt K mg) : TS := tSeq (tIfS (tAnd (tTest (tOp rNotN (tVar 1) (tC .non))) (tNot (tB (tCall (sp_is_count T) [] E0 (tCons (tVar 1) (tNil)))))) (tNever) (tNext)) (sFld K (tVar 0) (tVar 1) "most")
theorem len_Store_limit (T : Txt K mg) : ∀ (vs : List V) (H : Hp) (Q : VK) (E : XK), sp_Store_limit T vs H Q E → vs.length = (["self", "room"] : List Str).length := by
  intro vs H Q E h
  unfold sp_Store_limit at h
  split at h
  all_goals first | rfl | exact h.elim
theorem rd_Store_limit (T : Txt K mg) (vs : List V) (H : Hp) (Q : VK) (E : XK) (h : sp_Store_limit T vs H Q E) : t_Store_limit w T { nx := fun _ H' => Q .non H', rt := Q } (start ["self", "room"] vs) H := by
  match vs, h with
  | [.ref o, .int n], h =>
  obtain ⟨tb, st, pl, m, ⟨dx, ho⟩, n0, q⟩ := h
  unfold t_Store_limit
  walk_at "st"
  repeat walk_at "w"
  refine r_notN ?_
  rw [decide_eq_false (fun z => by cases z)]
  repeat walk_at "w"
  refine (show ∃ k, V.bl (decide (0 ≤ n)) = V.bl k ∧ _ from ⟨_, rfl, ?_⟩)
  rw [decide_eq_true n0]
  repeat walk_at "w"
  refine r_fput ho T.c_Store T.n_Store_most (by show (4 : Nat) < 1000; decide) fun H1 b1 h1 => ?_
  exact q H1 b1 ⟨dx, h1⟩

theorem ok_Store_limit (T : Txt K mg) : FnOk P w K mg base CX0 3 T.a_Store_limit T.fd_Store_limit ["self", "room"] (sp_Store_limit T) :=
  T.F_Store_limit.ok sc_Store_limit (len_Store_limit T) fun cdv A outer s H vs Q E hr h => ⟨t_Store_limit w T, (pss_cons (ps_if (PW.pt (pw_and (pt_cmpR op_notN1 (pv 1) pe_non (nomark _)) (pw_and1 (pt_not (pt_val (pe_call (ok_is_count T) (hr.mono (by decide)) (by rfl) T.m_is_count T.F_is_count.kp (b_is_count T) .nil pass0 (pa_cons (pv 1) pa_nil))))))) (pss_one ps_never) pss_nil)
      (pss_one (ps_fld (pv 0) (pv 1) rfl))), rd_Store_limit T vs H Q E h⟩
end
end CP

namespace CP
open PySem L2
section
variable {P : Program} {w : World} {K : PySem.W.Frag} {mg : Str → Option Value} {base : Heap}
def sp_Store_spot_of (T : Txt K mg) : Sp := fun vs H Q _ => match vs with
  | [.ref o, .ref d, .ref c] => ∃ tb st pl m hi wi, ShO T H o tb st pl m ∧ TabAt T.a_Plain H tb brd ∧ H d = some (.dK (dV (szV hi wi))) ∧ NumB hi wi ∧ Cel K H c ∧ ∀ H', Same H H' → Q (.int (wi + 2)) H'
  | _ => False
def t_Store_spot_of (w : World) (T : Txt K mg) : TS := tRet (tCB (rSum K) (tCons (tLc (iZip2 K (tCons (tVar 2) (tCons (tFld K (tFld K (tVar 0) "table") "row") (tNil)))) (gTup K 2 (gCons (gName 3) (gCons (gName 4) gNil))) (tYes) (tOp oMul (tVar 3) (tCall (sp_valued T) [] E0 (tCons (tOp (rIxT K) (tVar 4) (tC (.int 2))) (tCons (tVar 1) (tNil))))) [3, 4]) (tNil)))
theorem len_Store_spot_of (T : Txt K mg) : ∀ (vs : List V) (H : Hp) (Q : VK) (E : XK), sp_Store_spot_of T vs H Q E → vs.length = (["self", "values", "cell"] : List Str).length := by
  intro vs H Q E h
  unfold sp_Store_spot_of at h
  split at h
  all_goals first | rfl | exact h.elim
theorem rd_Store_spot_of (T : Txt K mg) (vs : List V) (H : Hp) (Q : VK) (E : XK) (h : sp_Store_spot_of T vs H Q E) : t_Store_spot_of w T { nx := fun _ H' => Q .non H', rt := Q } (start ["self", "values", "cell", "index", "side"] vs) H := by
  match vs, h with
  | [.ref o, .ref d, .ref c], h =>
  obtain ⟨tb, st, pl, m, hi, wi, ⟨dx, ho⟩, ⟨dt, p, htb, ws, hp, pr⟩, hd, hb, hc, q⟩ := h
  unfold t_Store_spot_of
  walk_at "st"
  repeat walk_at "w"
  obtain ⟨t1, a1, b1, t2, a2, b2, rfl, g1, g2, g3, g4, g5, g6⟩ := brd_at pr
  obtain ⟨n1, n2, n3, n4⟩ := hb
  unfold iZip2
  repeat walk_at "w"
  refine r_fget ho T.c_Store T.n_Store_table (by rfl) ?_
  refine r_fget htb T.c_Plain T.n_Plain_row (by rfl) ?_
  repeat walk_at "w"
  refine ⟨c, p, [.int 1, .int 2], [.ref t1, .ref t2], rfl, .of hp, ?_⟩
  rcases hc with hc | hc
  all_goals
    first
      | refine .inl ⟨hc, fun D hD => lc_valsZ (A := fun H => SqL K H c) (B := fun H => SqL K H p) (xs := [.int 1, .int 2]) (zs := [.ref t1, .ref t2]) [V.int wi, V.int 2] hD (fun H2 s => ⟨s.seq hc, .of (s _ _ hp)⟩) rfl rfl (by show (2 : Nat) < 16777216; decide) (fun i x y T' v H2 hx hy ho s2 hT N no yes => ?_) fun H2 s2 hacc => ?_⟩
      | refine .inr ⟨hc, fun D hD => lc_valsZ (A := fun H => SqT K H c) (B := fun H => SqL K H p) (xs := [.int 1, .int 2]) (zs := [.ref t1, .ref t2]) [V.int wi, V.int 2] hD (fun H2 s => ⟨same_seqT s hc, .of (s _ _ hp)⟩) rfl rfl (by show (2 : Nat) < 16777216; decide) (fun i x y T' v H2 hx hy ho s2 hT N no yes => ?_) fun H2 s2 hacc => ?_⟩
    · have hd2 := CP.Same.to s2 hd
      match i, hx, hy, ho with
      | 0, hx, hy, ho =>
        cases hx
        cases hy
        cases ho
        repeat walk_at "w"
        refine ⟨rfl, r_yes (if_t ?_)⟩
        repeat walk_at "w"
        refine r_ixT (.of (CP.Same.to s2 g1)) (v := .ref b1) (by rfl) ?_
        repeat walk_at "w"
        refine ⟨["n"], _, fun _ => wi, CP.Same.to s2 g3, hd2, val_1 (sz_n hi wi) (by omega) n4, prod_t n4, ?_⟩
        rw [prod_1]
        repeat walk_at "w"
        exact yes _ _ _ rfl (Same.refl _) (congrArg V.int (by omega))
      | 1, hx, hy, ho =>
        cases hx
        cases hy
        cases ho
        repeat walk_at "w"
        refine ⟨rfl, r_yes (if_t ?_)⟩
        repeat walk_at "w"
        refine r_ixT (.of (CP.Same.to s2 g4)) (v := .ref b2) (by rfl) ?_
        repeat walk_at "w"
        refine ⟨[], _, fun _ => wi, CP.Same.to s2 g6, hd2, fun k hk => (List.not_mem_nil hk).elim, fun i _ => by rw [List.take_nil, prod_0]; decide +kernel, ?_⟩
        rw [prod_0]
        repeat walk_at "w"
        exact yes _ _ _ rfl (Same.refl _) rfl
      | n + 2, hx, hy, ho => exact absurd hx (by simp)
    · refine r_sum (ns := [wi, 2]) (.of hacc) ?_
      have e : ([wi, 2] : List Int).sum = wi + 2 := by simp
      rw [e]
      exact q H2 s2

theorem ok_Store_spot_of (T : Txt K mg) : FnOk P w K mg base CX0 2 T.a_Store_spot_of T.fd_Store_spot_of ["self", "values", "cell"] (sp_Store_spot_of T) :=
  T.F_Store_spot_of.ok sc_Store_spot_of (len_Store_spot_of T) fun cdv A outer s H vs Q E hr h => ⟨t_Store_spot_of w T, (pss_one (ps_ret (pe_callB (cr_sum rfl) (by rfl) T.n_sum (by decide +kernel) (pa_cons (pe_lc (own := [("index", 3), ("side", 4)]) (g := (gTup K 2 (gCons (gName 3) (gCons (gName 4) gNil)))) (tt := tYes) (te := tOp oMul (tVar 3) (tCall (sp_valued T) [] E0 (tCons (tOp (rIxT K) (tVar 4) (tC (.int 2))) (tCons (tVar 1) (tNil))))) rfl sc_Store_spot_of.nd (pi_zip2 (by rfl) T.n_zip (pa_cons (pv 2) (pa_cons (pe_fld (pe_fld (pv 0) rfl) rfl) pa_nil))) (blkOk_by (own := [("index", 3), ("side", 4)]) (N := ["self", "values", "cell", "index", "side"]) (sc := defScope s_Store_spot_of) (by decide +kernel)) (fun _ _ _ _ _ => (pg_tup rfl (pgs_cons (pg_name (i := 3) sc_Store_spot_of.nd rfl (Or.inl rfl)) (pgs_cons (pg_name (i := 4) sc_Store_spot_of.nd rfl (Or.inl rfl)) pgs_nil)))) (fun _ _ _ _ _ => pts_nil) (fun _ _ _ _ _ => (pe_op op_mulW (pv 3) (pe_call (ok_valued T) (hr.mono (by decide)) (by rfl) T.m_valued T.F_valued.kp (b_valued T) .nil pass0 (pa_cons (pe_ix ix_tup (pv 4) pe_int (fun _ _ => rfl)) (pa_cons (pv 1) pa_nil)))))) pa_nil)))), rd_Store_spot_of T vs H Q E h⟩
end
end CP

namespace CP
open PySem L2
section
variable {P : Program} {w : World} {K : PySem.W.Frag} {mg : Str → Option Value} {base : Heap}
def sp_Store_check_cell (T : Txt K mg) : Sp := fun vs H Q _ => match vs with
  | [.ref o, .ref c] => ∃ hi wi ld m n, ShAt T H o hi wi ld m n ∧ NumB hi wi ∧ H c = some (.lst [.int 1, .int 2]) ∧ ∀ H', Same H H' → Q .non H'
  | _ => False
def t_Store_check_cell (w : World) (T : Txt K mg) : TS := tSeq (tIfS (tOr (tNot (tB (tCB (rIsi K) (tCons (tVar 1) (tCons (tC (.ty "list")) (tNil)))))) (tTest (tOp rNe (tCB (rLenA K) (tCons (tVar 1) (tNil))) (tCB (rLenA K) (tCons (tFld K (tFld K (tVar 0) "table") "row") (tNil)))))) (tNever) (tNext)) (tFor (iZip2 K (tCons (tVar 1) (tCons (tFld K (tFld K (tVar 0) "table") "row") (tNil)))) (gTup K 2 (gCons (gName 2) (gCons (gName 3) gNil))) (tIfS (tOr (tNot (tB (tCall (sp_is_count T) [] E0 (tCons (tVar 2) (tNil))))) (tTest (tOp oGe (tVar 2) (tCall (sp_valued T) [] E0 (tCons (tOp (rIxT K) (tVar 3) (tC (.int 1))) (tCons (tOp (rIxT K) (tFld K (tVar 0) "state") (tC (.int 0))) (tNil))))))) (tNever) (tNext)))
theorem len_Store_check_cell (T : Txt K mg) : ∀ (vs : List V) (H : Hp) (Q : VK) (E : XK), sp_Store_check_cell T vs H Q E → vs.length = (["self", "cell"] : List Str).length := by
  intro vs H Q E h
  unfold sp_Store_check_cell at h
  split at h
  all_goals first | rfl | exact h.elim
theorem rd_Store_check_cell (T : Txt K mg) (vs : List V) (H : Hp) (Q : VK) (E : XK) (h : sp_Store_check_cell T vs H Q E) : t_Store_check_cell w T { nx := fun _ H' => Q .non H', rt := Q } (start ["self", "cell", "index", "side"] vs) H := by
  match vs, h with
  | [.ref o, .ref c], h =>
  obtain ⟨hi, wi, ld, m, n, ⟨tb, st, pl, dv, dl, ps, ⟨dx, ho⟩, ⟨dt, p, htb, ws, hp, pr⟩, ⟨h1, h2, h3⟩, h4, h5⟩, hb, hc, q⟩ := h
  unfold t_Store_check_cell
  walk_at "st"
  repeat walk_at "w"
  obtain ⟨t1, a1, b1, t2, a2, b2, rfl, g1, g2, g3, g4, g5, g6⟩ := brd_at pr
  obtain ⟨n1, n2, n3, n4⟩ := hb
  refine r_isi (tk_lst hc) (by decide) ?_
  have e1 : ("list" == "list" || "list" == "bool" && "list" == "int") = true := by decide
  rw [e1]
  repeat walk_at "w"
  refine r_fget ho T.c_Store T.n_Store_table (by rfl) ?_
  refine r_fget htb T.c_Plain T.n_Plain_row (by rfl) ?_
  repeat walk_at "w"
  refine (if_neg (by simp)).mpr ?_
  repeat walk_at "w"
  unfold iZip2
  repeat walk_at "w"
  refine r_fget ho T.c_Store T.n_Store_table (by rfl) ?_
  refine r_fget htb T.c_Plain T.n_Plain_row (by rfl) ?_
  repeat walk_at "w"
  refine ⟨c, p, [.int 1, .int 2], [.ref t1, .ref t2], rfl, .of hp, .inl ⟨.of hc, for_zz (A := fun H => SqL K H c) (B := fun H => SqL K H p) (xs := [.int 1, .int 2]) (ys := [.ref t1, .ref t2]) rfl (fun i σ H' => Same H H' ∧ ∃ x2 x3, σ = [some (.ref o), some (.ref c), x2, x3]) ⟨Same.refl _, _, _, rfl⟩ (fun i σ H' w => ⟨.of (w.1 _ _ hc), .of (w.1 _ _ hp)⟩) ?_ ?_⟩⟩
  · rintro i x y T' σ H1 hx hy ⟨s1, x2, x3, rfl⟩ T0
    have s2 : Same H (upd H1 T' (.tup [x, y])) := s1.trans (same_new T0)
    have hT : (upd H1 T' (.tup [x, y])) T' = some (.tup [x, y]) := upd_same
    generalize upd H1 T' (.tup [x, y]) = H2 at s2 hT ⊢
    match i, hx, hy with
    | 0, hx, hy =>
      cases hx
      cases hy
      repeat walk_at "w"
      refine (show ∃ k, V.bl (decide ((0 : Int) ≤ 1)) = V.bl k ∧ _ from ⟨_, rfl, ?_⟩)
      rw [decide_eq_true (by decide)]
      repeat walk_at "w"
      refine r_ixT (.of (CP.Same.to s2 g1)) (v := .ref a1) (by rfl) ?_
      repeat walk_at "w"
      refine r_fget (CP.Same.to s2 ho) T.c_Store T.n_Store_state (by rfl) ?_
      repeat walk_at "w"
      refine r_ixT (.of (CP.Same.to s2 h1)) (v := .ref dv) (by rfl) ?_
      repeat walk_at "w"
      refine ⟨["m"], _, fun _ => hi, CP.Same.to s2 g2, CP.Same.to s2 h2, val_1 (sz_m hi wi) (by omega) n2, prod_t n2, ?_⟩
      rw [prod_1]
      repeat walk_at "w"
      rw [decide_eq_false (by omega)]
      repeat walk_at "w"
      exact ⟨s2, _, _, rfl⟩
    | 1, hx, hy =>
      cases hx
      cases hy
      repeat walk_at "w"
      refine (show ∃ k, V.bl (decide ((0 : Int) ≤ 2)) = V.bl k ∧ _ from ⟨_, rfl, ?_⟩)
      rw [decide_eq_true (by decide)]
      repeat walk_at "w"
      refine r_ixT (.of (CP.Same.to s2 g4)) (v := .ref a2) (by rfl) ?_
      repeat walk_at "w"
      refine r_fget (CP.Same.to s2 ho) T.c_Store T.n_Store_state (by rfl) ?_
      repeat walk_at "w"
      refine r_ixT (.of (CP.Same.to s2 h1)) (v := .ref dv) (by rfl) ?_
      repeat walk_at "w"
      refine ⟨["n"], _, fun _ => wi, CP.Same.to s2 g5, CP.Same.to s2 h2, val_1 (sz_n hi wi) (by omega) n4, prod_t n4, ?_⟩
      rw [prod_1]
      repeat walk_at "w"
      rw [decide_eq_false (by omega)]
      repeat walk_at "w"
      exact ⟨s2, _, _, rfl⟩
    | n + 2, hx, hy => exact absurd hx (by simp)
  · rintro σ H1 ⟨s1, x2, x3, rfl⟩
    repeat walk_at "w"
    exact q H1 s1

theorem ok_Store_check_cell (T : Txt K mg) : FnOk P w K mg base CX0 3 T.a_Store_check_cell T.fd_Store_check_cell ["self", "cell"] (sp_Store_check_cell T) :=
  T.F_Store_check_cell.ok sc_Store_check_cell (len_Store_check_cell T) fun cdv A outer s H vs Q E hr h => ⟨t_Store_check_cell w T, (pss_cons (ps_if (PW.pt (pw_or (pt_not (pt_val (pe_callB call_isi (by rfl) T.n_isinstance (by decide +kernel) (pa_cons (pv 1) (pa_cons (pe_bltn (v := .ty "list") (by rfl) T.n_list (by decide +kernel) rfl) pa_nil))))) (pw_or1 (pt_cmpR op_ne (pe_callB call_lenA (by rfl) T.n_len (by decide +kernel) (pa_cons (pv 1) pa_nil)) (pe_callB call_lenA (by rfl) T.n_len (by decide +kernel) (pa_cons (pe_fld (pe_fld (pv 0) rfl) rfl) pa_nil)) (nomark _))))) (pss_one ps_never) pss_nil)
      (pss_one (ps_for PassesOwn.never rfl (pi_zip2 (by rfl) T.n_zip (pa_cons (pv 1) (pa_cons (pe_fld (pe_fld (pv 0) rfl) rfl) pa_nil))) (pg_tup rfl (pgs_cons (pg_name (i := 2) sc_Store_check_cell.nd rfl (Or.inl rfl)) (pgs_cons (pg_name (i := 3) sc_Store_check_cell.nd rfl (Or.inl rfl)) pgs_nil))) (pss_one (ps_if (PW.pt (pw_or (pt_not (pt_val (pe_call (ok_is_count T) (hr.mono (by decide)) (by rfl) T.m_is_count T.F_is_count.kp (b_is_count T) .nil pass0 (pa_cons (pv 2) pa_nil)))) (pw_or1 (pt_cmpR op_ge (pv 2) (pe_call (ok_valued T) (hr.mono (by decide)) (by rfl) T.m_valued T.F_valued.kp (b_valued T) .nil pass0 (pa_cons (pe_ix ix_tup (pv 3) pe_int (fun _ _ => rfl)) (pa_cons (pe_ix ix_tup (pe_fld (pv 0) rfl) pe_int (fun _ _ => rfl)) pa_nil))) (nomark _))))) (pss_one ps_never) pss_nil))))), rd_Store_check_cell T vs H Q E h⟩
end
end CP

namespace CP
open PySem L2
section
variable {P : Program} {w : World} {K : PySem.W.Frag} {mg : Str → Option Value} {base : Heap}
def sp_Store_check_room (T : Txt K mg) : Sp := fun vs H Q _ => match vs with
  | [.ref o, .int _] => ∃ tb st pl, ShO T H o tb st pl .non ∧ Q .non H
  | _ => False
def t_Store_check_room (w : World) (T : Txt K mg) : TS := tIfS (tAnd (tTest (tOp rNotN (tFld K (tVar 0) "most") (tC .non))) (tTest (tOp oGe (tVar 1) (tFld K (tVar 0) "most")))) (tNever) (tNext)
theorem len_Store_check_room (T : Txt K mg) : ∀ (vs : List V) (H : Hp) (Q : VK) (E : XK), sp_Store_check_room T vs H Q E → vs.length = (["self", "place"] : List Str).length := by
  intro vs H Q E h
  unfold sp_Store_check_room at h
  split at h
  all_goals first | rfl | exact h.elim
theorem rd_Store_check_room (T : Txt K mg) (vs : List V) (H : Hp) (Q : VK) (E : XK) (h : sp_Store_check_room T vs H Q E) : t_Store_check_room w T { nx := fun _ H' => Q .non H', rt := Q } (start ["self", "place"] vs) H := by
  match vs, h with
  | [.ref o, .int n], h =>
  obtain ⟨tb, st, pl, ⟨dx, ho⟩, q⟩ := h
  unfold t_Store_check_room
  walk_at "st"
  repeat walk_at "w"
  refine r_fget ho T.c_Store T.n_Store_most (by rfl) ?_
  repeat walk_at "w"
  exact q

theorem ok_Store_check_room (T : Txt K mg) : FnOk P w K mg base CX0 1 T.a_Store_check_room T.fd_Store_check_room ["self", "place"] (sp_Store_check_room T) :=
  T.F_Store_check_room.ok sc_Store_check_room (len_Store_check_room T) fun cdv A outer s H vs Q E hr h => ⟨t_Store_check_room w T, (pss_one (ps_if (PW.pt (pw_and (pt_cmpR op_notN1 (pe_fld (pv 0) rfl) pe_non (nomark _)) (pw_and1 (pt_cmpR op_ge (pv 1) (pe_fld (pv 0) rfl) (nomark _))))) (pss_one ps_never) pss_nil)), rd_Store_check_room T vs H Q E h⟩
end
end CP

namespace CP
open PySem L2
section
variable {P : Program} {w : World} {K : PySem.W.Frag} {mg : Str → Option Value} {base : Heap}
def sp_Store_change (T : Txt K mg) : Sp := fun vs H Q _ => match vs with
  | [.ref o, .ref v, .ref l] => ∃ tb st pl m ps, ShO T H o tb st pl m ∧ H pl = some (.lst ps) ∧ ps.length < 1000 ∧ ∀ st' pl' H', SB o H H' → H st' = none → H pl' = none → ShO T H' o tb st' pl' m → H' st' = some (.tup [.ref v, .ref l]) → H' pl' = some (.lst (ps ++ [.ref st])) → Q .non H'
  | _ => False
def t_Store_change (w : World) (T : Txt K mg) : TS := tSeq (sFld K (tVar 0) (tOp rCat (tFld K (tVar 0) "past") (tLst (tCons (tFld K (tVar 0) "state") (tNil)))) "past") (sFld K (tVar 0) (tTup (tCons (tVar 1) (tCons (tVar 2) (tNil)))) "state")
theorem len_Store_change (T : Txt K mg) : ∀ (vs : List V) (H : Hp) (Q : VK) (E : XK), sp_Store_change T vs H Q E → vs.length = (["self", "values", "laid"] : List Str).length := by
  intro vs H Q E h
  unfold sp_Store_change at h
  split at h
  all_goals first | rfl | exact h.elim
theorem rd_Store_change (T : Txt K mg) (vs : List V) (H : Hp) (Q : VK) (E : XK) (h : sp_Store_change T vs H Q E) : t_Store_change w T { nx := fun _ H' => Q .non H', rt := Q } (start ["self", "values", "laid"] vs) H := by
  match vs, h with
  | [.ref o, .ref v, .ref l], h =>
  obtain ⟨tb, st, pl, m, ps, ⟨dx, ho⟩, hp, hl, q⟩ := h
  unfold t_Store_change
  walk_at "st"
  repeat walk_at "w"
  refine r_fget ho T.c_Store T.n_Store_past (by rfl) ?_
  repeat walk_at "w"
  refine r_fget ho T.c_Store T.n_Store_state (by rfl) ?_
  repeat walk_at "w"
  rename_i l1 H1 l10 s1 hl1
  refine r_cat (CP.Same.to s1 hp) hl1 (by show ps.length + 1 ≤ 16777216; omega) fun c H2 c0 s2 hc => ?_
  have s12 := s1.trans s2
  repeat walk_at "w"
  refine r_fput (CP.Same.to s12 ho) T.c_Store T.n_Store_past (by show (4 : Nat) < 1000; decide) fun H3 b3 h3 => ?_
  repeat walk_at "w"
  rename_i t4 H4 t40 s4 ht4
  refine r_fput (CP.Same.to s4 h3) T.c_Store T.n_Store_state (by show (4 : Nat) < 1000; decide) fun H5 b5 h5 => ?_
  have n4 : t4 ≠ o := (ne_of_none h3 t40).symm
  have nc : c ≠ o := (ne_of_none (CP.Same.to s1 ho) c0).symm
  exact q t4 c H5 (fun b u ne e => b5 _ _ ne (s4 _ _ (b3 _ _ ne (s12 _ _ e)))) (s12.free (b3.free t40 n4)) (s1.free c0) ⟨dx, h5⟩ (b5 _ _ n4 ht4) (b5 _ _ nc (s4 _ _ (b3 _ _ nc hc)))

theorem ok_Store_change (T : Txt K mg) : FnOk P w K mg base CX0 1 T.a_Store_change T.fd_Store_change ["self", "values", "laid"] (sp_Store_change T) :=
  T.F_Store_change.ok sc_Store_change (len_Store_change T) fun cdv A outer s H vs Q E hr h => ⟨t_Store_change w T, (pss_cons (ps_fld (pv 0) (pe_op op_cat (pe_fld (pv 0) rfl) (pe_lst (pa_cons (pe_fld (pv 0) rfl) pa_nil))) rfl)
      (pss_one (ps_fld (pv 0) (pe_tup (pa_cons (pv 1) (pa_cons (pv 2) pa_nil))) rfl))), rd_Store_change T vs H Q E h⟩
end
end CP

namespace CP
open PySem L2
section
variable {P : Program} {w : World} {K : PySem.W.Frag} {mg : Str → Option Value} {base : Heap}
def sp_Store_lay (T : Txt K mg) : Sp := fun vs H Q _ => match vs with
  | [.ref o, .ref c, v] => ∃ hi wi n, ShAt T H o hi wi [] .non n ∧ NumB hi wi ∧ n < 100 ∧ H c = some (.lst [.int 1, .int 2]) ∧ ∀ H', SB o H H' → ShAt T H' o hi wi [(kx, v)] .non (n + 1) → Q (.int (wi + 2)) H'
  | _ => False
def t_Store_lay (w : World) (T : Txt K mg) : TS := tSeq (tDrop (tMeth T.a_Store "check_cell" (sp_Store_check_cell T) [] E0 (tVar 0) (tCons (tVar 1) (tNil)))) (tSeq (tAsg (tFld K (tVar 0) "state") (gTup K 2 (gCons (gName 3) (gCons (gName 4) gNil)))) (tSeq (tAsg (tMeth T.a_Store "spot_of" (sp_Store_spot_of T) [] E0 (tVar 0) (tCons (tVar 3) (tCons (tVar 1) (tNil)))) (gName 5)) (tSeq (tDrop (tMeth T.a_Store "check_room" (sp_Store_check_room T) [] E0 (tVar 0) (tCons (tVar 5) (tNil)))) (tSeq (tAsg (tCB (oDictT) (tCons (tVar 4) (tNil))) (gName 6)) (tSeq (sDPut (tVar 6) (tCB ((oTuple K)) (tCons (tVar 1) (tNil))) (tVar 2)) (tSeq (tDrop (tMeth T.a_Store "change" (sp_Store_change T) [] E0 (tVar 0) (tCons (tVar 3) (tCons (tVar 6) (tNil))))) (tRet (tVar 5))))))))
theorem len_Store_lay (T : Txt K mg) : ∀ (vs : List V) (H : Hp) (Q : VK) (E : XK), sp_Store_lay T vs H Q E → vs.length = (["self", "cell", "item"] : List Str).length := by
  intro vs H Q E h
  unfold sp_Store_lay at h
  split at h
  all_goals first | rfl | exact h.elim
theorem rd_Store_lay (T : Txt K mg) (vs : List V) (H : Hp) (Q : VK) (E : XK) (h : sp_Store_lay T vs H Q E) : t_Store_lay w T { nx := fun _ H' => Q .non H', rt := Q } (start ["self", "cell", "item", "values", "laid", "place", "later"] vs) H := by
  match vs, h with
  | [.ref o, .ref c, v], h =>
  obtain ⟨hi, wi, n, hs, hb, hn, hc, q⟩ := h
  unfold t_Store_lay
  walk_at "st"
  repeat walk_at "w"
  obtain ⟨tb, st, pl, dv, dl, ps, sh, htab, so, h4, h5⟩ := id hs
  obtain ⟨dx, ho⟩ := id sh
  refine ⟨o, dx, _, rfl, ho, by rfl, ?_⟩
  repeat walk_at "w"
  refine ⟨hi, wi, _, _, _, hs, hb, hc, fun H1 s1 => ?_⟩
  obtain ⟨h1, h2, h3⟩ := so.mono s1
  have hc1 := CP.Same.to s1 hc
  have ho1 := CP.Same.to s1 ho
  repeat walk_at "w"
  refine r_fget ho1 T.c_Store T.n_Store_state (by rfl) ?_
  repeat walk_at "w"
  refine ⟨o, dx, _, rfl, ho1, by rfl, ?_⟩
  repeat walk_at "w"
  refine ⟨tb, st, pl, .non, hi, wi, sh.mono s1, htab.mono s1, h2, hb, .inl (.of hc1), fun H2 s2 => ?_⟩
  have ho2 := CP.Same.to s2 ho1
  repeat walk_at "w"
  refine ⟨o, dx, _, rfl, ho2, by rfl, ?_⟩
  repeat walk_at "w"
  refine ⟨tb, st, pl, (sh.mono s1).mono s2, ?_⟩
  repeat walk_at "w"
  refine r_dictT (CP.Same.to s2 h3) (by decide) fun l H3 l0 s3 hl => ?_
  repeat walk_at "w"
  refine r_tupL (.of (CP.Same.to s3 (CP.Same.to s2 hc1))) fun t H4 t0 s4 ht => ?_
  refine ⟨l, _, rfl, DPut.t (kvs := []) (k := kx) (CP.Same.to s4 hl) ht (by decide), ?_⟩
  rw [kx_put]
  have b5 : SB l H4 (upd H4 l (.dT [(kx, v)])) := sb_upd
  have hl5 : (upd H4 l (.dT [(kx, v)])) l = some (.dT [(kx, v)]) := upd_same
  generalize upd H4 l (.dT [(kx, v)]) = H5 at b5 hl5 ⊢
  have s23 := s2.trans s3
  have s5 : Same H2 H5 := CP.Same.sb (s3.trans s4) l0 b5
  have S5 : Same H H5 := (s1.trans s2).trans s5
  have ho5 := CP.Same.to s5 ho2
  repeat walk_at "w"
  refine ⟨o, dx, _, rfl, ho5, by rfl, ?_⟩
  repeat walk_at "w"
  refine ⟨tb, st, pl, .non, ps, sh.mono S5, CP.Same.to S5 h4, by omega, fun st' pl' H6 b6 n1 n2 sh6 e1 e2 => ?_⟩
  repeat walk_at "w"
  refine q H6 (fun b u ne e => b6 b u ne (S5 _ _ e)) ⟨tb, st', pl', dv, l, _, sh6, tab_sbo (htab.mono S5) (sh.mono S5) b6, ⟨e1, ?_, ?_⟩, e2, by rw [List.length_append, h5]; rfl⟩
  · exact ((so.mono S5).sbo (sh.mono S5) b6).2.1
  · exact b6 _ _ (fun z => by rw [z, ho5] at hl5; cases hl5) hl5

theorem ok_Store_lay (T : Txt K mg) : FnOk P w K mg base CX0 4 T.a_Store_lay T.fd_Store_lay ["self", "cell", "item"] (sp_Store_lay T) :=
  T.F_Store_lay.ok sc_Store_lay (len_Store_lay T) fun cdv A outer s H vs Q E hr h => ⟨t_Store_lay w T, (pss_cons (ps_expr (pe_meth (pv 0) T.c_Store T.M_Store_check_cell (ok_Store_check_cell T) (hr.mono (by decide)) (b_Store_check_cell T) .nil pass0 (pa_cons (pv 1) pa_nil)))
      (pss_cons (ps_asg (pe_fld (pv 0) rfl) (pg_tup rfl (pgs_cons (pg_name (i := 3) sc_Store_lay.nd rfl (Or.inl rfl)) (pgs_cons (pg_name (i := 4) sc_Store_lay.nd rfl (Or.inl rfl)) pgs_nil))))
      (pss_cons (ps_set (i := 5) sc_Store_lay.nd rfl (Or.inl rfl) (pe_meth (pv 0) T.c_Store T.M_Store_spot_of (ok_Store_spot_of T) (hr.mono (by decide)) (b_Store_spot_of T) .nil pass0 (pa_cons (pv 3) (pa_cons (pv 1) pa_nil))))
      (pss_cons (ps_expr (pe_meth (pv 0) T.c_Store T.M_Store_check_room (ok_Store_check_room T) (hr.mono (by decide)) (b_Store_check_room T) .nil pass0 (pa_cons (pv 5) pa_nil)))
      (pss_cons (ps_set (i := 6) sc_Store_lay.nd rfl (Or.inl rfl) (pe_callTy (call_dictT hr.units) (by rfl) T.n_dict (by decide +kernel) (pa_cons (pv 4) pa_nil)))
      (pss_cons (ps_dput (hu_of hr) (pv 6) (pe_callTy call_tuple_of (by rfl) T.n_tuple (by decide +kernel) (pa_cons (pv 1) pa_nil)) (pv 2) rfl)
      (pss_cons (ps_expr (pe_meth (pv 0) T.c_Store T.M_Store_change (ok_Store_change T) (hr.mono (by decide)) (b_Store_change T) .nil pass0 (pa_cons (pv 3) (pa_cons (pv 6) pa_nil))))
      (pss_one (ps_ret (pv 5)))))))))), rd_Store_lay T vs H Q E h⟩
end
end CP

namespace CP
open PySem L2
section
variable {P : Program} {w : World} {K : PySem.W.Frag} {mg : Str → Option Value} {base : Heap}
def sp_Store_look (T : Txt K mg) : Sp := fun vs H Q _ => match vs with
  | [.ref o, .ref c] => ∃ hi wi v m n, ShAt T H o hi wi [(kx, v)] m n ∧ NumB hi wi ∧ H c = some (.lst [.int 1, .int 2]) ∧ ∀ H', Same H H' → Q v H'
  | _ => False
def t_Store_look (w : World) (T : Txt K mg) : TS := tSeq (tDrop (tMeth T.a_Store "check_cell" (sp_Store_check_cell T) [] E0 (tVar 0) (tCons (tVar 1) (tNil)))) (tRet (tDGet2 (tOp (rIxT K) (tFld K (tVar 0) "state") (tC (.int 1))) (tCB ((oTuple K)) (tCons (tVar 1) (tNil))) (tC .non)))
theorem len_Store_look (T : Txt K mg) : ∀ (vs : List V) (H : Hp) (Q : VK) (E : XK), sp_Store_look T vs H Q E → vs.length = (["self", "cell"] : List Str).length := by
  intro vs H Q E h
  unfold sp_Store_look at h
  split at h
  all_goals first | rfl | exact h.elim
theorem rd_Store_look (T : Txt K mg) (vs : List V) (H : Hp) (Q : VK) (E : XK) (h : sp_Store_look T vs H Q E) : t_Store_look w T { nx := fun _ H' => Q .non H', rt := Q } (start ["self", "cell"] vs) H := by
  match vs, h with
  | [.ref o, .ref c], h =>
  obtain ⟨hi, wi, v, m, n, hs, hb, hc, q⟩ := h
  unfold t_Store_look
  walk_at "st"
  repeat walk_at "w"
  obtain ⟨tb, st, pl, dv, dl, ps, sh, htab, so, h4, h5⟩ := id hs
  obtain ⟨dx, ho⟩ := id sh
  refine ⟨o, dx, _, rfl, ho, by rfl, ?_⟩
  repeat walk_at "w"
  refine ⟨hi, wi, _, _, _, hs, hb, hc, fun H1 s1 => ?_⟩
  obtain ⟨h1, h2, h3⟩ := so.mono s1
  have hc1 := CP.Same.to s1 hc
  have ho1 := CP.Same.to s1 ho
  repeat walk_at "w"
  refine r_fget ho1 T.c_Store T.n_Store_state (by rfl) ?_
  repeat walk_at "w"
  refine r_ixT (.of h1) (v := .ref dl) (by rfl) ?_
  refine ⟨dl, rfl, .inr ⟨_, .inl h3⟩, ?_⟩
  repeat walk_at "w"
  refine r_tupL (.of hc1) fun t H2 t0 s2 ht => ?_
  repeat walk_at "w"
  refine ⟨_, DGet.t (k := kx) (CP.Same.to s2 h3) ht, ?_⟩
  rw [kx_val]
  exact q H2 (s1.trans s2)

theorem ok_Store_look (T : Txt K mg) : FnOk P w K mg base CX0 4 T.a_Store_look T.fd_Store_look ["self", "cell"] (sp_Store_look T) :=
  T.F_Store_look.ok sc_Store_look (len_Store_look T) fun cdv A outer s H vs Q E hr h => ⟨t_Store_look w T, (pss_cons (ps_expr (pe_meth (pv 0) T.c_Store T.M_Store_check_cell (ok_Store_check_cell T) (hr.mono (by decide)) (b_Store_check_cell T) .nil pass0 (pa_cons (pv 1) pa_nil)))
      (pss_one (ps_ret (pe_dget2 (hu_of hr) (pe_ix ix_tup (pe_fld (pv 0) rfl) pe_int (fun _ _ => rfl)) (pe_callTy call_tuple_of (by rfl) T.n_tuple (by decide +kernel) (pa_cons (pv 1) pa_nil)) pe_non ⟨by rfl, by rfl, by rfl, by rfl⟩)))), rd_Store_look T vs H Q E h⟩
end
end CP

namespace CP
open PySem L2
section
variable {P : Program} {w : World} {K : PySem.W.Frag} {mg : Str → Option Value} {base : Heap}
def sp_Store_take (T : Txt K mg) : Sp := fun vs H Q _ => match vs with
  | [.ref o, .ref c] => ∃ hi wi v m n, ShAt T H o hi wi [(kx, v)] m n ∧ NumB hi wi ∧ n < 100 ∧ H c = some (.lst [.int 1, .int 2]) ∧ ∀ H', SB o H H' → ShAt T H' o hi wi [] m (n + 1) → Q v H'
  | _ => False
def t_Store_take (w : World) (T : Txt K mg) : TS := tSeq (tDrop (tMeth T.a_Store "check_cell" (sp_Store_check_cell T) [] E0 (tVar 0) (tCons (tVar 1) (tNil)))) (tSeq (tAsg (tFld K (tVar 0) "state") (gTup K 2 (gCons (gName 2) (gCons (gName 3) gNil)))) (tSeq (tAsg (tCB (oDictT) (tCons (tVar 3) (tNil))) (gName 4)) (tSeq (tAsg (tBM K "dict" DX.rPopT (tVar 4) (tCons (tCB ((oTuple K)) (tCons (tVar 1) (tNil))) (tCons (tC .non) (tNil)))) (gName 5)) (tSeq (tDrop (tMeth T.a_Store "change" (sp_Store_change T) [] E0 (tVar 0) (tCons (tVar 2) (tCons (tVar 4) (tNil))))) (tRet (tVar 5))))))
theorem len_Store_take (T : Txt K mg) : ∀ (vs : List V) (H : Hp) (Q : VK) (E : XK), sp_Store_take T vs H Q E → vs.length = (["self", "cell"] : List Str).length := by
  intro vs H Q E h
  unfold sp_Store_take at h
  split at h
  all_goals first | rfl | exact h.elim
theorem rd_Store_take (T : Txt K mg) (vs : List V) (H : Hp) (Q : VK) (E : XK) (h : sp_Store_take T vs H Q E) : t_Store_take w T { nx := fun _ H' => Q .non H', rt := Q } (start ["self", "cell", "values", "laid", "later", "item"] vs) H := by
  match vs, h with
  | [.ref o, .ref c], h =>
  obtain ⟨hi, wi, v, m, n, hs, hb, hn, hc, q⟩ := h
  unfold t_Store_take
  walk_at "st"
  repeat walk_at "w"
  obtain ⟨tb, st, pl, dv, dl, ps, sh, htab, so, h4, h5⟩ := id hs
  obtain ⟨dx, ho⟩ := id sh
  refine ⟨o, dx, _, rfl, ho, by rfl, ?_⟩
  repeat walk_at "w"
  refine ⟨hi, wi, _, _, _, hs, hb, hc, fun H1 s1 => ?_⟩
  obtain ⟨h1, h2, h3⟩ := so.mono s1
  have hc1 := CP.Same.to s1 hc
  have ho1 := CP.Same.to s1 ho
  repeat walk_at "w"
  refine r_fget ho1 T.c_Store T.n_Store_state (by rfl) ?_
  repeat walk_at "w"
  refine r_dictT h3 (Nat.le_refl 1) fun l H3 l0 s3 hl => ?_
  repeat walk_at "w"
  refine ⟨.inr (.inr (.inl ⟨rfl, .inr ⟨_, hl⟩⟩)), ?_⟩
  repeat walk_at "w"
  refine r_tupL (.of (CP.Same.to s3 hc1)) fun t H4 t0 s4 ht => ?_
  repeat walk_at "w"
  have hl4 := CP.Same.to s4 hl
  refine ⟨l, _, kx, t, _, rfl, rfl, hl4, ht, fun v' e => ?_, fun e => by rw [kx_val] at e; cases e⟩
  rw [kx_val] at e
  cases e
  rw [kx_drop]
  have b5 : SB l H4 (upd H4 l (.dT [])) := sb_upd
  have hl5 : (upd H4 l (.dT [])) l = some (.dT []) := upd_same
  generalize upd H4 l (.dT []) = H5 at b5 hl5 ⊢
  have s5 : Same H1 H5 := CP.Same.sb (s3.trans s4 |>.trans (Same.refl _) |> fun _ => Same.refl H1) l0 (fun b u ne e => b5 b u ne (s4 _ _ (s3 _ _ e)))
  have S5 : Same H H5 := s1.trans s5
  have ho5 := CP.Same.to s5 ho1
  repeat walk_at "w"
  refine ⟨o, dx, _, rfl, ho5, by rfl, ?_⟩
  repeat walk_at "w"
  refine ⟨tb, st, pl, m, ps, sh.mono S5, CP.Same.to S5 h4, by omega, fun st' pl' H6 b6 n1 n2 sh6 e1 e2 => ?_⟩
  repeat walk_at "w"
  refine q H6 (fun b u ne e => b6 b u ne (S5 _ _ e)) ⟨tb, st', pl', dv, l, _, sh6, tab_sbo (htab.mono S5) (sh.mono S5) b6, ⟨e1, ?_, ?_⟩, e2, by rw [List.length_append, h5]; rfl⟩
  · exact ((so.mono S5).sbo (sh.mono S5) b6).2.1
  · exact b6 _ _ (fun z => by rw [z, ho5] at hl5; cases hl5) hl5

theorem ok_Store_take (T : Txt K mg) : FnOk P w K mg base CX0 4 T.a_Store_take T.fd_Store_take ["self", "cell"] (sp_Store_take T) :=
  T.F_Store_take.ok sc_Store_take (len_Store_take T) fun cdv A outer s H vs Q E hr h => ⟨t_Store_take w T, (pss_cons (ps_expr (pe_meth (pv 0) T.c_Store T.M_Store_check_cell (ok_Store_check_cell T) (hr.mono (by decide)) (b_Store_check_cell T) .nil pass0 (pa_cons (pv 1) pa_nil)))
      (pss_cons (ps_asg (pe_fld (pv 0) rfl) (pg_tup rfl (pgs_cons (pg_name (i := 2) sc_Store_take.nd rfl (Or.inl rfl)) (pgs_cons (pg_name (i := 3) sc_Store_take.nd rfl (Or.inl rfl)) pgs_nil))))
      (pss_cons (ps_set (i := 4) sc_Store_take.nd rfl (Or.inl rfl) (pe_callTy (call_dictT hr.units) (by rfl) T.n_dict (by decide +kernel) (pa_cons (pv 3) pa_nil)))
      (pss_cons (ps_set (i := 5) sc_Store_take.nd rfl (Or.inl rfl) (pe_bm PySem.F.plainAttrs_dict PySem.F.slot_dict_pop PySem.F.type_dict_pop (DX.mt_popT (hu_of hr)) (pv 4) (pa_cons (pe_callTy call_tuple_of (by rfl) T.n_tuple (by decide +kernel) (pa_cons (pv 1) pa_nil)) (pa_cons pe_non pa_nil))))
      (pss_cons (ps_expr (pe_meth (pv 0) T.c_Store T.M_Store_change (ok_Store_change T) (hr.mono (by decide)) (b_Store_change T) .nil pass0 (pa_cons (pv 2) (pa_cons (pv 4) pa_nil))))
      (pss_one (ps_ret (pv 5)))))))), rd_Store_take T vs H Q E h⟩
end
end CP

namespace CP
open PySem L2
section
variable {P : Program} {w : World} {K : PySem.W.Frag} {mg : Str → Option Value} {base : Heap}
def sp_Store___len (T : Txt K mg) : Sp := fun vs H Q _ => match vs with
  | [.ref o] => ∃ hi wi ld m n, ShAt T H o hi wi ld m n ∧ Q (.int ((ld.length : Nat) : Int)) H
  | _ => False
def t_Store___len (w : World) (T : Txt K mg) : TS := tRet (tCB rLenT (tCons (tOp (rIxT K) (tFld K (tVar 0) "state") (tC (.int 1))) (tNil)))
theorem len_Store___len (T : Txt K mg) : ∀ (vs : List V) (H : Hp) (Q : VK) (E : XK), sp_Store___len T vs H Q E → vs.length = (["self"] : List Str).length := by
  intro vs H Q E h
  unfold sp_Store___len at h
  split at h
  all_goals first | rfl | exact h.elim
theorem rd_Store___len (T : Txt K mg) (vs : List V) (H : Hp) (Q : VK) (E : XK) (h : sp_Store___len T vs H Q E) : t_Store___len w T { nx := fun _ H' => Q .non H', rt := Q } (start ["self"] vs) H := by
  match vs, h with
  | [.ref o], h =>
  obtain ⟨hi, wi, ld, m, n, ⟨tb, st, pl, dv, dl, ps, ⟨dx, ho⟩, _, ⟨h1, h2, h3⟩, h4, h5⟩, q⟩ := h
  unfold t_Store___len
  walk_at "st"
  repeat walk_at "w"
  refine r_fget ho T.c_Store T.n_Store_state (by rfl) ?_
  repeat walk_at "w"
  refine r_ixT (.of h1) (v := .ref dl) (by rfl) ?_
  repeat walk_at "w"
  exact ⟨dl, ld, rfl, h3, q⟩

theorem ok_Store___len (T : Txt K mg) : FnOk P w K mg base CX0 1 T.a_Store___len T.fd_Store___len ["self"] (sp_Store___len T) :=
  T.F_Store___len.ok sc_Store___len (len_Store___len T) fun cdv A outer s H vs Q E hr h => ⟨t_Store___len w T, (pss_one (ps_ret (pe_callB call_len_dT (by rfl) T.n_len (by decide +kernel) (pa_cons (pe_ix ix_tup (pe_fld (pv 0) rfl) pe_int (fun _ _ => rfl)) pa_nil)))), rd_Store___len T vs H Q E h⟩
end
end CP

namespace CP
open PySem L2
section
variable {P : Program} {w : World} {K : PySem.W.Frag} {mg : Str → Option Value} {base : Heap}
def sp_Store_held (T : Txt K mg) : Sp := fun vs H Q _ => match vs with
  | [.ref o] => ∃ hi wi z m n, ShAt T H o hi wi [(kx, .str z)] m n ∧ NumB hi wi ∧ ∀ l t c H', Same H H' → H' l = some (.lst [.ref t]) → H' t = some (.tup [.int (wi + 2), .ref c, .str z]) → H' c = some (.lst [.int 1, .int 2]) → Q (.ref l) H'
  | _ => False
def t_Store_held (w : World) (T : Txt K mg) : TS := tSeq (tAsg (tFld K (tVar 0) "state") (gTup K 2 (gCons (gName 1) (gCons (gName 2) gNil)))) (tSeq (tAsg (tCB (rSorted1 K) (tCons (tLockE (tLc (iKeys (tVar 2)) (gName 4) (tYes) (tTup (tCons (tMeth T.a_Store "spot_of" (sp_Store_spot_of T) [] E0 (tVar 0) (tCons (tVar 1) (tCons (tVar 4) (tNil)))) (tCons (tVar 4) (tNil)))) [4])) (tNil))) (gName 3)) (tRet (tLc (iList K (tVar 3)) (gTup K 2 (gCons (gName 5) (gCons (gName 4) gNil))) (tYes) (tTup (tCons (tVar 5) (tCons (tCB ((oList K)) (tCons (tVar 4) (tNil))) (tCons (tDGet (tVar 2) (tVar 4)) (tNil))))) [5, 4])))
theorem len_Store_held (T : Txt K mg) : ∀ (vs : List V) (H : Hp) (Q : VK) (E : XK), sp_Store_held T vs H Q E → vs.length = (["self"] : List Str).length := by
  intro vs H Q E h
  unfold sp_Store_held at h
  split at h
  all_goals first | rfl | exact h.elim
theorem rd_Store_held (T : Txt K mg) (vs : List V) (H : Hp) (Q : VK) (E : XK) (h : sp_Store_held T vs H Q E) : t_Store_held w T { nx := fun _ H' => Q .non H', rt := Q } (start ["self", "values", "laid", "places", "cell", "place"] vs) H := by
  match vs, h with
  | [.ref o], h =>
  obtain ⟨hi, wi, z, m, n, hs, hb, q⟩ := h
  unfold t_Store_held
  walk_at "st"
  repeat walk_at "w"
  obtain ⟨tb, st, pl, dv, dl, ps, sh, htab, ⟨h1, h2, h3⟩, h4, h5⟩ := hs
  obtain ⟨dx, ho⟩ := id sh
  refine r_fget ho T.c_Store T.n_Store_state (by rfl) ?_
  repeat walk_at "w"
  refine r_lockT h3 fun od H1 f1 k1 back => ?_
  have ne1 : ∀ {b : Addr} {u : HO}, H b = some u → u ≠ .dT [(kx, .str z)] → H1 b = some u := fun {b u} e n => k1 b u (fun w => n (by rw [w, h3] at e; exact (Option.some.inj e).symm)) e
  repeat walk_at "w"
  have hd1 := ne1 h2 (fun w => by cases w)
  have sh1 : ShO T H1 o tb st pl m := ⟨dx, ne1 ho (fun w => by cases w)⟩
  have ht1 : TabAt T.a_Plain H1 tb brd := by
    obtain ⟨dt, p, e1, ws, e2, e3⟩ := htab
    exact ⟨dt, p, ne1 e1 (fun w => by cases w), ws, ne1 e2 (fun w => by cases w), pd_mono e3 fun v r ⟨t, a, b, e, x1, x2, x3⟩ => ⟨t, a, b, e, ne1 x1 (fun w => by cases w), ne1 x2 (fun w => by cases w), ne1 x3 (fun w => by cases w)⟩⟩
  refine ⟨dl, od, rfl, .inr ⟨_, f1, fun D hD => lc_keysT (fun H v (_ : Unit) => ∃ t q, v = .ref t ∧ H t = some (.tup [.int (wi + 2), .ref q]) ∧ H q = some (.tup [.int 1, .int 2])) [some ()] hD f1 rfl (by show (1 : Nat) < 16777216; decide) (fun H H' v b s w => ?_) (fun i k v' q' ob H2 hk ho' hq s2 hacc N no yes => ?_) fun H2 acc s2 hacc pp => ?_⟩⟩
  · obtain ⟨t, q', e, x1, x2⟩ := w
    exact ⟨t, q', e, s _ _ x1, s _ _ x2⟩
  · match i, hk, ho' with
    | 0, hk, ho' =>
      cases hk
      cases ho'
      rw [kx_map] at hq
      obtain ⟨acc, hacc⟩ := hacc
      have ho2 := s2 _ _ sh1.choose_spec
      repeat walk_at "w"
      refine ⟨rfl, r_yes (if_t ?_)⟩
      repeat walk_at "w"
      refine ⟨o, _, _, rfl, ho2, by rfl, ?_⟩
      repeat walk_at "w"
      refine ⟨tb, st, pl, m, hi, wi, sh1.mono s2, ht1.mono s2, s2 _ _ hd1, hb, .inr (.of hq), fun H3 s3 => ?_⟩
      repeat walk_at "w"
      rename_i t4 H4 t40 s4 ht4
      refine yes H4 _ _ rfl (s3.trans s4) ⟨t4, q', rfl, ?_, ?_⟩
      · rw [hide_ne (ne_of_none (CP.Same.to s3 hacc) t40).symm]
        exact ht4
      · rw [hide_ne (fun w => by rw [w, hacc] at hq; cases hq)]
        exact s4 _ _ (s3 _ _ hq)
    | i + 1, hk, _ => exact absurd hk (by simp)
  refine ⟨CP.Same.to s2 f1, ?_⟩
  obtain ⟨x, rfl, t, q', rfl, x1, x2⟩ : ∃ x, acc = [x] ∧ ∃ t q, x = .ref t ∧ H2 t = some (.tup [.int (wi + 2), .ref q]) ∧ H2 q = some (.tup [.int 1, .int 2]) := by
    cases pp with
    | cons w pt =>
      cases pt
      exact ⟨_, rfl, w⟩
  have b2 : SB dl H2 (upd H2 dl (.dT [(kx, .str z)])) := sb_upd
  have hdl : (upd H2 dl (.dT [(kx, .str z)])) dl = some (.dT [(kx, .str z)]) := upd_same
  have S2 := back H2 s2
  generalize upd H2 dl (.dT [(kx, .str z)]) = H3 at b2 hdl S2 ⊢
  have fd : ∀ {b : Addr} {u : HO}, H2 b = some u → u ≠ .frz od (.dT [(kx, .str z)]) → H3 b = some u := fun {b u} e n => b2 b u (fun w => n (by rw [w, CP.Same.to s2 f1] at e; exact (Option.some.inj e).symm)) e
  have y1 := fd x1 (fun w => by cases w)
  have y2 := fd x2 (fun w => by cases w)
  have y0 := fd hacc (fun w => by cases w)
  repeat walk_at "w"
  refine r_sorted1 y0 (d := .int (wi + 2)) (ds := [.tuple [.int 1, .int 2]]) (.tup (.of y1) (.cons (.int _) (.cons (.tup (.of y2) (.cons (.int _) (.cons (.int _) .nil))) .nil))) (by rfl) (by simp [PyData.depth, PyData.depthAll]) fun L H4 L0 s4 hL => ?_
  repeat walk_at "w"
  have z1 := CP.Same.to s4 y1
  have z2 := CP.Same.to s4 y2
  refine ⟨L, rfl, ⟨_, .of hL⟩, fun D2 hD2 => lc_tell (K := K) (xs := [.ref t]) (fun H v (_ : Unit) => ∃ t c, v = .ref t ∧ H t = some (.tup [.int (wi + 2), .ref c, .str z]) ∧ H c = some (.lst [.int 1, .int 2])) [some ()] hD2 (.of hL) rfl (by show (1 : Nat) < 16777216; decide) (fun H H' v b s w => ?_) (fun i x ob H5 hx ho' s5 hacc N no yes => ?_) fun H5 acc s5 hacc pp => ?_⟩
  · obtain ⟨t, c, e, x1, x2⟩ := w
    exact ⟨t, c, e, s _ _ x1, s _ _ x2⟩
  · match i, hx, ho' with
    | 0, hx, ho' =>
      cases hx
      cases ho'
      obtain ⟨acc, hacc⟩ := hacc
      have w1 := CP.Same.to s5 z1
      have w2 := CP.Same.to s5 z2
      have w3 := CP.Same.to s5 (CP.Same.to s4 hdl)
      repeat walk_at "w"
      refine ⟨rfl, r_yes (if_t ?_)⟩
      repeat walk_at "w"
      refine ⟨q', [.int 1, .int 2], rfl, .inr (.of w2), fun c c0 => ?_⟩
      have s6 : Same H5 (upd H5 c (.lst [.int 1, .int 2])) := same_new c0
      have hc : (upd H5 c (.lst [.int 1, .int 2])) c = some (.lst [.int 1, .int 2]) := upd_same
      generalize upd H5 c (.lst [.int 1, .int 2]) = H6 at s6 hc ⊢
      repeat walk_at "w"
      refine ⟨dl, .str z, rfl, by rw [← kx_val (V.str z)]; exact DGet.t (k := kx) (CP.Same.to s6 w3) (CP.Same.to s6 w2), ?_⟩
      repeat walk_at "w"
      rename_i t7 H7 t70 s7 ht7
      refine yes H7 _ _ rfl (s6.trans s7) ⟨t7, c, rfl, ?_, ?_⟩
      · rw [hide_ne (ne_of_none (CP.Same.to s6 hacc) t70).symm]
        exact ht7
      · rw [hide_ne (ne_of_none hacc c0).symm]
        exact s7 _ _ hc
    | i + 1, hx, _ => exact absurd hx (by simp)
  obtain ⟨x, rfl, t', c, rfl, v1, v2⟩ : ∃ x, acc = [x] ∧ ∃ t c, x = .ref t ∧ H5 t = some (.tup [.int (wi + 2), .ref c, .str z]) ∧ H5 c = some (.lst [.int 1, .int 2]) := by
    cases pp with
    | cons w pt =>
      cases pt
      exact ⟨_, rfl, w⟩
  exact q D2 t' c H5 ((S2.trans s4).trans s5) hacc v1 v2

theorem ok_Store_held (T : Txt K mg) : FnOk P w K mg base CX0 3 T.a_Store_held T.fd_Store_held ["self"] (sp_Store_held T) :=
  T.F_Store_held.ok sc_Store_held (len_Store_held T) fun cdv A outer s H vs Q E hr h => ⟨t_Store_held w T, (pss_cons (ps_asg (pe_fld (pv 0) rfl) (pg_tup rfl (pgs_cons (pg_name (i := 1) sc_Store_held.nd rfl (Or.inr rfl)) (pgs_cons (pg_name (i := 2) sc_Store_held.nd rfl (Or.inr rfl)) pgs_nil))))
      (pss_cons (ps_set (i := 3) sc_Store_held.nd rfl (Or.inl rfl) (pe_callB (cr_sorted1 hr.units) (by rfl) T.n_sorted (by decide +kernel) (pa_cons (pe_lock (pe_lc (own := [("cell", 4)]) (g := (gName 4)) (tt := tYes) (te := tTup (tCons (tMeth T.a_Store "spot_of" (sp_Store_spot_of T) [] E0 (tVar 0) (tCons (tVar 1) (tCons (tVar 4) (tNil)))) (tCons (tVar 4) (tNil)))) rfl sc_Store_held.nd (pi_keys (pv 2)) (blkOk_by (own := [("cell", 4)]) (N := ["self", "values", "laid", "places", "cell", "place"]) (sc := defScope s_Store_held) (by decide +kernel)) (fun _ _ _ _ _ => (pg_name (i := 4) sc_Store_held.nd rfl (Or.inl rfl))) (fun _ _ _ _ _ => pts_nil) (fun _ _ _ _ _ => (pe_tup (pa_cons (pe_meth (pv 0) T.c_Store T.M_Store_spot_of (ok_Store_spot_of T) (hr.mono (by decide)) (b_Store_spot_of T) .nil pass0 (pa_cons (pv 1) (pa_cons (pv 4) pa_nil))) (pa_cons (pv 4) pa_nil)))))) pa_nil)))
      (pss_one (ps_ret (pe_lc (own := [("place", 5), ("cell", 4)]) (g := (gTup K 2 (gCons (gName 5) (gCons (gName 4) gNil)))) (tt := tYes) (te := tTup (tCons (tVar 5) (tCons (tCB ((oList K)) (tCons (tVar 4) (tNil))) (tCons (tDGet (tVar 2) (tVar 4)) (tNil))))) rfl sc_Store_held.nd (pi_list (pv 3)) (blkOk_by (own := [("place", 5), ("cell", 4)]) (N := ["self", "values", "laid", "places", "cell", "place"]) (sc := defScope s_Store_held) (by decide +kernel)) (fun _ _ _ _ _ => (pg_tup rfl (pgs_cons (pg_name (i := 5) sc_Store_held.nd rfl (Or.inl rfl)) (pgs_cons (pg_name (i := 4) sc_Store_held.nd rfl (Or.inl rfl)) pgs_nil)))) (fun _ _ _ _ _ => pts_nil) (fun _ _ _ _ _ => (pe_tup (pa_cons (pv 5) (pa_cons (pe_callTy call_listA (by rfl) T.n_list (by decide +kernel) (pa_cons (pv 4) pa_nil)) (pa_cons (pe_dget (hu_of hr) (pv 2) (pv 4) (fun _ _ => rfl)) pa_nil)))))))))), rd_Store_held T vs H Q E h⟩
end
end CP

namespace CP
open PySem L2
section
variable {P : Program} {w : World} {K : PySem.W.Frag} {mg : Str → Option Value} {base : Heap}
def sp_Store_grow (T : Txt K mg) : Sp := fun vs H Q _ => match vs with
  | [.ref o, .str z] => ∃ hi wi v n, z = "n" ∧ ShAt T H o hi wi [(kx, v)] .non n ∧ NumB hi wi ∧ NumB hi (wi + 1) ∧ n < 100 ∧ ∀ H', SB o H H' → ShAt T H' o hi (wi + 1) [(kx, v)] .non (n + 1) → Q (.int 1) H'
  | _ => False
def t_Store_grow (w : World) (T : Txt K mg) : TS := tSeq (tAsg (tFld K (tVar 0) "state") (gTup K 2 (gCons (gName 2) (gCons (gName 3) gNil)))) (tSeq (tIfS (tOr (tNot (tB (tCall (sp_is_letter T) [] E0 (tCons (tVar 1) (tNil))))) (tB (tDNotIn (tVar 1) (tVar 2)))) (tNever) (tNext)) (tSeq (tAsg (tCB (oDictD) (tCons (tVar 2) (tNil))) (gName 4)) (tSeq (sDPut (tVar 4) (tVar 1) (tOp oAdd (tDGet (tVar 4) (tVar 1)) (tC (.int 1)))) (tSeq (tLock (tAsg (tLc (iKeys (tVar 3)) (gName 6) (tYes) (tTup (tCons (tMeth T.a_Store "spot_of" (sp_Store_spot_of T) [] E0 (tVar 0) (tCons (tVar 2) (tCons (tVar 6) (tNil)))) (tCons (tMeth T.a_Store "spot_of" (sp_Store_spot_of T) [] E0 (tVar 0) (tCons (tVar 4) (tCons (tVar 6) (tNil)))) (tNil)))) [6]) (gName 5))) (tSeq (tIfS (tTest (tOp (rNeX K) (tVar 5) (tLst (tNil)))) (tDrop (tMeth T.a_Store "check_room" (sp_Store_check_room T) [] E0 (tVar 0) (tCons (tCB (rMax K) (tCons (tLc (iList K (tVar 5)) (gTup K 2 (gCons (gName 7) (gCons (gName 8) gNil))) (tYes) (tVar 8) [7, 8]) (tNil))) (tNil)))) (tNext)) (tSeq (tDrop (tMeth T.a_Store "change" (sp_Store_change T) [] E0 (tVar 0) (tCons (tVar 4) (tCons (tVar 3) (tNil))))) (tRet (tCB (rLenA K) (tCons (tLc (iList K (tVar 5)) (gTup K 2 (gCons (gName 7) (gCons (gName 8) gNil))) (tTest (tOp rNe (tVar 7) (tVar 8))) (tC (.int 1)) [7, 8]) (tNil))))))))))
theorem len_Store_grow (T : Txt K mg) : ∀ (vs : List V) (H : Hp) (Q : VK) (E : XK), sp_Store_grow T vs H Q E → vs.length = (["self", "size"] : List Str).length := by
  intro vs H Q E h
  unfold sp_Store_grow at h
  split at h
  all_goals first | rfl | exact h.elim
theorem rd_Store_grow (T : Txt K mg) (vs : List V) (H : Hp) (Q : VK) (E : XK) (h : sp_Store_grow T vs H Q E) : t_Store_grow w T { nx := fun _ H' => Q .non H', rt := Q } (start ["self", "size", "values", "laid", "later", "places", "cell", "before", "place"] vs) H := by
  match vs, h with
  | [.ref o, .str z], h =>
  obtain ⟨hi, wi, v, n, rfl, hs, hb, hb2, hn, q⟩ := h
  unfold t_Store_grow
  walk_at "st"
  repeat walk_at "w"
  obtain ⟨tb, st, pl, dv, dl, ps, sh, htab, ⟨h1, h2, h3⟩, h4, h5⟩ := hs
  obtain ⟨dx, ho⟩ := id sh
  refine r_fget ho T.c_Store T.n_Store_state (by rfl) ?_
  repeat walk_at "w"
  refine ⟨"str", tk_str, .inr ⟨"n", rfl, rfl, by decide, by decide +kernel, fun H1 s1 => ?_⟩⟩
  rw [show letB "n" = true from by decide +kernel]
  have ho1 := CP.Same.to s1 ho
  have h21 := CP.Same.to s1 h2
  repeat walk_at "w"
  rw [sz_n]
  refine (if_neg (by simp)).mpr ?_
  repeat walk_at "w"
  refine ⟨dv, _, rfl, .inl h21, fun d d0 => ?_⟩
  have s2 : Same H1 (upd H1 d (.dK (dV (szV hi wi)))) := same_new d0
  have hd2 : (upd H1 d (.dK (dV (szV hi wi)))) d = some (.dK (dV (szV hi wi))) := upd_same
  generalize upd H1 d (.dK (dV (szV hi wi))) = H2 at s2 hd2 ⊢
  repeat walk_at "w"
  refine r_dgetS hd2 (sz_n hi wi) ?_
  repeat walk_at "w"
  refine r_dputS hd2 (by show (2 : Nat) < 16777216; decide) fun H3 b3 hd3 => ?_
  have e3 : putK (dV (szV hi wi)) (Sum.inr "n") (V.int (wi + 1)) = dV (szV hi (wi + 1)) := rfl
  rw [e3] at hd3
  have s13 : Same H1 H3 := CP.Same.sb (Same.refl H1) d0 (fun b u ne e => b3 b u ne (s2 _ _ e))
  have S3 := s1.trans s13
  have h33 := CP.Same.to S3 h3
  repeat walk_at "w"
  refine r_lockTS h33 fun od H4 f4 k4 back => ?_
  have ne4 : ∀ {b : Addr} {u : HO}, H3 b = some u → u ≠ .dT [(kx, v)] → H4 b = some u := fun {b u} e n => k4 b u (fun w => n (by rw [w, h33] at e; exact (Option.some.inj e).symm)) e
  repeat walk_at "w"
  have S3sh := sh.mono S3
  have h43 := CP.Same.to S3 h2
  have hd4 := ne4 hd3 (fun w => by cases w)
  have h24 := ne4 h43 (fun w => by cases w)
  have sh4 : ShO T H4 o tb st pl .non := ⟨dx, ne4 (CP.Same.to S3 ho) (fun w => by cases w)⟩
  have ht4 : TabAt T.a_Plain H4 tb brd := by
    obtain ⟨dt, p, e1, ws, e2, e3⟩ := htab.mono S3
    exact ⟨dt, p, ne4 e1 (fun w => by cases w), ws, ne4 e2 (fun w => by cases w), pd_mono e3 fun v r ⟨t, a, b, e, x1, x2, x3⟩ => ⟨t, a, b, e, ne4 x1 (fun w => by cases w), ne4 x2 (fun w => by cases w), ne4 x3 (fun w => by cases w)⟩⟩
  refine ⟨dl, od, rfl, .inr ⟨_, f4, fun D hD => lc_keysT (fun H v (_ : Unit) => ∃ t, v = .ref t ∧ H t = some (.tup [.int (wi + 2), .int (wi + 1 + 2)])) [some ()] hD f4 rfl (by show (1 : Nat) < 16777216; decide) (fun H H' v b s w => ?_) (fun i k v' q' ob H5 hk ho' hq s5 hacc N no yes => ?_) fun H5 acc s5 hacc pp => ?_⟩⟩
  · obtain ⟨t, e, x1⟩ := w
    exact ⟨t, e, s _ _ x1⟩
  · match i, hk, ho' with
    | 0, hk, ho' =>
      cases hk
      cases ho'
      rw [kx_map] at hq
      obtain ⟨acc, hacc⟩ := hacc
      have ho5 := s5 _ _ sh4.choose_spec
      repeat walk_at "w"
      refine ⟨rfl, r_yes (if_t ?_)⟩
      repeat walk_at "w"
      refine ⟨o, _, _, rfl, ho5, by rfl, ?_⟩
      repeat walk_at "w"
      refine ⟨tb, st, pl, .non, hi, wi, sh4.mono s5, ht4.mono s5, s5 _ _ h24, hb, .inr (.of hq), fun H6 s6 => ?_⟩
      repeat walk_at "w"
      refine ⟨o, _, _, rfl, CP.Same.to s6 ho5, by rfl, ?_⟩
      repeat walk_at "w"
      refine ⟨tb, st, pl, .non, hi, wi + 1, (sh4.mono s5).mono s6, (ht4.mono s5).mono s6, s6 _ _ (s5 _ _ hd4), hb2, .inr (.of (s6 _ _ hq)), fun H7 s7 => ?_⟩
      repeat walk_at "w"
      rename_i t8 H8 t80 s8 ht8
      refine yes H8 _ _ rfl ((s6.trans s7).trans s8) ⟨t8, rfl, ?_⟩
      rw [hide_ne (ne_of_none (CP.Same.to s7 (CP.Same.to s6 hacc)) t80).symm]
      exact ht8
    | i + 1, hk, _ => exact absurd hk (by simp)
  obtain ⟨x, rfl, t, rfl, x1⟩ : ∃ x, acc = [x] ∧ ∃ t, x = .ref t ∧ H5 t = some (.tup [.int (wi + 2), .int (wi + 1 + 2)]) := by
    cases pp with
    | cons w pt =>
      cases pt
      exact ⟨_, rfl, w⟩
  have fz := CP.Same.to s5 f4
  have b6 : SB dl H5 (upd H5 dl (.dT [(kx, v)])) := sb_upd
  have hdl : (upd H5 dl (.dT [(kx, v)])) dl = some (.dT [(kx, v)]) := upd_same
  have S6 := back H5 s5
  repeat walk_at "w"
  refine ⟨fz, ?_⟩
  generalize upd H5 dl (.dT [(kx, v)]) = H6 at b6 hdl S6 ⊢
  have fd : ∀ {b : Addr} {u : HO}, H5 b = some u → u ≠ .frz od (.dT [(kx, v)]) → H6 b = some u := fun {b u} e n => b6 b u (fun w => n (by rw [w, fz] at e; exact (Option.some.inj e).symm)) e
  have y1 := fd x1 (fun w => by cases w)
  have y0 := fd hacc (fun w => by cases w)
  have S06 := S3.trans S6
  repeat walk_at "w"
  rename_i p7 H7 p70 s7 hp7
  have z0 := CP.Same.to s7 y0
  have z1 := CP.Same.to s7 y1
  refine nil_neX1 (.of z0) (.of hp7) ⟨[.tuple [.int (wi + 2), .int (wi + 1 + 2)]], .cons (.tup (.of z1) (.cons (.int _) (.cons (.int _) .nil))) .nil, rfl, by simp [PyData.depthAll, PyData.depth]⟩ ?_
  have S07 := S06.trans s7
  have ho7 := CP.Same.to S07 ho
  repeat walk_at "w"
  refine ⟨o, dx, _, rfl, ho7, by rfl, ?_⟩
  repeat walk_at "w"
  refine ⟨D, rfl, ⟨_, .of z0⟩, fun D2 hD2 => lc_valsL (K := K) (xs := [.ref t]) [.int (wi + 1 + 2)] hD2 (.of z0) rfl (by show (1 : Nat) < 16777216; decide) (fun i x y H8 hx hy s8 N no yes => ?_) fun H8 s8 hacc8 => ?_⟩
  · match i, hx, hy with
    | 0, hx, hy =>
      cases hx
      cases hy
      have w1 := CP.Same.to s8 z1
      repeat walk_at "w"
      refine ⟨rfl, r_yes (if_t ?_)⟩
      repeat walk_at "w"
      exact yes _ _ _ rfl (Same.refl _) rfl
    | i + 1, hx, _ => exact absurd hx (by simp)
  repeat walk_at "w"
  refine ⟨D2, [wi + 1 + 2], rfl, .of hacc8, by show (0 : Nat) < 1; decide, fun mx hm hu => ?_⟩
  rw [List.mem_singleton.mp hm]
  have S08 := S07.trans s8
  repeat walk_at "w"
  refine ⟨tb, st, pl, sh.mono S08, ?_⟩
  repeat walk_at "w"
  have ho8 := CP.Same.to S08 ho
  refine ⟨o, dx, _, rfl, ho8, by rfl, ?_⟩
  repeat walk_at "w"
  refine ⟨tb, st, pl, .non, ps, sh.mono S08, CP.Same.to S08 h4, by omega, fun st' pl' H9 b9 n1 n2 sh9 e1 e2 => ?_⟩
  have kp : ∀ {b : Addr} {u : HO}, H8 b = some u → (∀ fs, u ≠ .ins T.a_Store dx fs) → H9 b = some u := fun {b u} e n => b9 _ _ (fun w => by rw [w, ho8] at e; exact n _ (Option.some.inj e).symm) e
  have w0 := kp (CP.Same.to s8 z0) (fun _ w => by cases w)
  have w1 := kp (CP.Same.to s8 z1) (fun _ w => by cases w)
  repeat walk_at "w"
  refine ⟨D, rfl, ⟨_, .of w0⟩, fun D3 hD3 => lc_valsL (K := K) (xs := [.ref t]) [.int 1] hD3 (.of w0) rfl (by show (1 : Nat) < 16777216; decide) (fun i x y H10 hx hy s10 N no yes => ?_) fun H10 s10 hacc10 => ?_⟩
  · match i, hx, hy with
    | 0, hx, hy =>
      cases hx
      cases hy
      have v1 := CP.Same.to s10 w1
      repeat walk_at "w"
      refine ⟨rfl, ?_⟩
      repeat walk_at "w"
      rw [decide_eq_false (by omega)]
      repeat walk_at "w"
      exact yes _ _ _ rfl (Same.refl _) rfl
    | i + 1, hx, _ => exact absurd hx (by simp)
  repeat walk_at "w"
  refine q H10 (fun b u n e => s10 _ _ (b9 _ _ n (S08 _ _ e))) (ShAt.mono ⟨tb, st', pl', d, dl, _, sh9, tab_sbo (htab.mono S08) (sh.mono S08) b9, ⟨e1, ?_, ?_⟩, e2, by rw [List.length_append, h5]; rfl⟩ s10)
  · have g := CP.Same.to s8 (CP.Same.to s7 (CP.Same.to S6 hd3))
    exact kp g fun _ w => by cases w
  · have g := CP.Same.to s8 (CP.Same.to s7 hdl)
    exact kp g fun _ w => by cases w

theorem ok_Store_grow (T : Txt K mg) : FnOk P w K mg base CX0 3 T.a_Store_grow T.fd_Store_grow ["self", "size"] (sp_Store_grow T) :=
  T.F_Store_grow.ok sc_Store_grow (len_Store_grow T) fun cdv A outer s H vs Q E hr h => ⟨t_Store_grow w T, (pss_cons (ps_asg (pe_fld (pv 0) rfl) (pg_tup rfl (pgs_cons (pg_name (i := 2) sc_Store_grow.nd rfl (Or.inr rfl)) (pgs_cons (pg_name (i := 3) sc_Store_grow.nd rfl (Or.inl rfl)) pgs_nil))))
      (pss_cons (ps_if (PW.pt (pw_or (pt_not (pt_val (pe_call (ok_is_letter T) (hr.mono (by decide)) (by rfl) T.m_is_letter T.F_is_letter.kp (b_is_letter T) .nil pass0 (pa_cons (pv 1) pa_nil)))) (pw_or1 (pt_cmp (pc_dnotin (hu_of hr) (pv 1) (pv 2)))))) (pss_one ps_never) pss_nil)
      (pss_cons (ps_set (i := 4) sc_Store_grow.nd rfl (Or.inr rfl) (pe_callTy call_dictD (by rfl) T.n_dict (by decide +kernel) (pa_cons (pv 2) pa_nil)))
      (pss_cons (ps_dput (hu_of hr) (pv 4) (pv 1) (pe_op op_add (pe_dget (hu_of hr) (pv 4) (pv 1) (fun _ _ => rfl)) pe_int) rfl)
      (pss_cons (ps_lock (ps_setLc (i := 5) (own := [("cell", 6)]) (g := (gName 6)) (tt := tYes) (te := tTup (tCons (tMeth T.a_Store "spot_of" (sp_Store_spot_of T) [] E0 (tVar 0) (tCons (tVar 2) (tCons (tVar 6) (tNil)))) (tCons (tMeth T.a_Store "spot_of" (sp_Store_spot_of T) [] E0 (tVar 0) (tCons (tVar 4) (tCons (tVar 6) (tNil)))) (tNil)))) rfl sc_Store_grow.nd rfl rfl (sw_true rfl rfl rfl (by decide +kernel)) (pi_keys (pv 3)) (blkOk_by (own := [("cell", 6)]) (N := ["self", "size", "values", "laid", "later", "places", "cell", "before", "place"]) (sc := defScope s_Store_grow) (by decide +kernel)) (fun _ _ _ _ _ => (pg_name (i := 6) sc_Store_grow.nd rfl (Or.inl rfl))) (fun _ _ _ _ _ => pts_nil) (fun _ _ _ _ _ => (pe_tup (pa_cons (pe_meth (pv 0) T.c_Store T.M_Store_spot_of (ok_Store_spot_of T) (hr.mono (by decide)) (b_Store_spot_of T) .nil pass0 (pa_cons (pv 2) (pa_cons (pv 6) pa_nil))) (pa_cons (pe_meth (pv 0) T.c_Store T.M_Store_spot_of (ok_Store_spot_of T) (hr.mono (by decide)) (b_Store_spot_of T) .nil pass0 (pa_cons (pv 4) (pa_cons (pv 6) pa_nil))) pa_nil))))))
      (pss_cons (ps_if (pt_cmpR (op_neX hr.units) (pv 5) (pe_lst pa_nil) (nomark _)) (pss_one (ps_expr (pe_meth (pv 0) T.c_Store T.M_Store_check_room (ok_Store_check_room T) (hr.mono (by decide)) (b_Store_check_room T) .nil pass0 (pa_cons (pe_callB (cr_max rfl) (by rfl) T.n_max (by decide +kernel) (pa_cons (pe_lc (own := [("before", 7), ("place", 8)]) (g := (gTup K 2 (gCons (gName 7) (gCons (gName 8) gNil)))) (tt := tYes) (te := tVar 8) rfl sc_Store_grow.nd (pi_list (pv 5)) (blkOk_by (own := [("before", 7), ("place", 8)]) (N := ["self", "size", "values", "laid", "later", "places", "cell", "before", "place"]) (sc := defScope s_Store_grow) (by decide +kernel)) (fun _ _ _ _ _ => (pg_tup rfl (pgs_cons (pg_name (i := 7) sc_Store_grow.nd rfl (Or.inl rfl)) (pgs_cons (pg_name (i := 8) sc_Store_grow.nd rfl (Or.inl rfl)) pgs_nil)))) (fun _ _ _ _ _ => pts_nil) (fun _ _ _ _ _ => (pv 8))) pa_nil)) pa_nil)))) pss_nil)
      (pss_cons (ps_expr (pe_meth (pv 0) T.c_Store T.M_Store_change (ok_Store_change T) (hr.mono (by decide)) (b_Store_change T) .nil pass0 (pa_cons (pv 4) (pa_cons (pv 3) pa_nil))))
      (pss_one (ps_ret (pe_callB call_lenA (by rfl) T.n_len (by decide +kernel) (pa_cons (pe_lc (own := [("before", 7), ("place", 8)]) (g := (gTup K 2 (gCons (gName 7) (gCons (gName 8) gNil)))) (tt := tTest (tOp rNe (tVar 7) (tVar 8))) (te := tC (.int 1)) rfl sc_Store_grow.nd (pi_list (pv 5)) (blkOk_by (own := [("before", 7), ("place", 8)]) (N := ["self", "size", "values", "laid", "later", "places", "cell", "before", "place"]) (sc := defScope s_Store_grow) (by decide +kernel)) (fun _ _ _ _ _ => (pg_tup rfl (pgs_cons (pg_name (i := 7) sc_Store_grow.nd rfl (Or.inl rfl)) (pgs_cons (pg_name (i := 8) sc_Store_grow.nd rfl (Or.inl rfl)) pgs_nil)))) (fun _ _ _ _ _ => (pts_one (pt_cmpR op_ne (pv 7) (pv 8) (nomark _)))) (fun _ _ _ _ _ => pe_int)) pa_nil))))))))))), rd_Store_grow T vs H Q E h⟩
end
end CP

namespace CP
open PySem L2
section
variable {P : Program} {w : World} {K : PySem.W.Frag} {mg : Str → Option Value} {base : Heap}
def sp_Trial___init (T : Txt K mg) : Sp := fun vs H Q _ => match vs with
  | [.ref a, x] => ∃ o dx tb st pl m, x = .ref o ∧ H a = some (.ins T.a_Trial dx []) ∧ a ≠ o ∧ ShO T H o tb st pl m ∧ ∀ H', SB a H H' → TrO T H' a o st pl m → Q .non H'
  | _ => False
def t_Trial___init (w : World) (T : Txt K mg) : TS := tSeq (sFld K (tVar 0) (tVar 1) "store") (tSeq (sFld K (tVar 0) (tFld K (tVar 1) "state") "state") (tSeq (sFld K (tVar 0) (tFld K (tVar 1) "most") "most") (sFld K (tVar 0) (tFld K (tVar 1) "past") "past")))
theorem len_Trial___init (T : Txt K mg) : ∀ (vs : List V) (H : Hp) (Q : VK) (E : XK), sp_Trial___init T vs H Q E → vs.length = (["self", "store"] : List Str).length := by
  intro vs H Q E h
  unfold sp_Trial___init at h
  split at h
  all_goals first | rfl | exact h.elim
theorem rd_Trial___init (T : Txt K mg) (vs : List V) (H : Hp) (Q : VK) (E : XK) (h : sp_Trial___init T vs H Q E) : t_Trial___init w T { nx := fun _ H' => Q .non H', rt := Q } (start ["self", "store"] vs) H := by
  match vs, h with
  | [.ref a, x], h =>
  obtain ⟨o, dx, tb, st, pl, m, rfl, ha, ne, ⟨dy, ho⟩, q⟩ := h
  unfold t_Trial___init
  walk_at "st"
  repeat walk_at "w"
  refine r_fput ha T.c_Trial T.n_Trial_store (by show (0 : Nat) < 1000; decide) fun H1 b1 h1 => ?_
  have ho1 := b1 _ _ ne.symm ho
  repeat walk_at "w"
  refine r_fget ho1 T.c_Store T.n_Store_state (by rfl) ?_
  repeat walk_at "w"
  refine r_fput h1 T.c_Trial T.n_Trial_state (by show (1 : Nat) < 1000; decide) fun H2 b2 h2 => ?_
  have ho2 := b2 _ _ ne.symm ho1
  repeat walk_at "w"
  refine r_fget ho2 T.c_Store T.n_Store_most (by rfl) ?_
  repeat walk_at "w"
  refine r_fput h2 T.c_Trial T.n_Trial_most (by show (2 : Nat) < 1000; decide) fun H3 b3 h3 => ?_
  have ho3 := b3 _ _ ne.symm ho2
  repeat walk_at "w"
  refine r_fget ho3 T.c_Store T.n_Store_past (by rfl) ?_
  repeat walk_at "w"
  refine r_fput h3 T.c_Trial T.n_Trial_past (by show (3 : Nat) < 1000; decide) fun H4 b4 h4 => ?_
  exact q H4 (fun b u n e => b4 _ _ n (b3 _ _ n (b2 _ _ n (b1 _ _ n e)))) ⟨dx, h4⟩

theorem ok_Trial___init (T : Txt K mg) : FnOk P w K mg base CX0 1 T.a_Trial___init T.fd_Trial___init ["self", "store"] (sp_Trial___init T) :=
  T.F_Trial___init.ok sc_Trial___init (len_Trial___init T) fun cdv A outer s H vs Q E hr h => ⟨t_Trial___init w T, (pss_cons (ps_fld (pv 0) (pv 1) rfl)
      (pss_cons (ps_fld (pv 0) (pe_fld (pv 1) rfl) rfl)
      (pss_cons (ps_fld (pv 0) (pe_fld (pv 1) rfl) rfl)
      (pss_one (ps_fld (pv 0) (pe_fld (pv 1) rfl) rfl))))), rd_Trial___init T vs H Q E h⟩
end
end CP

namespace CP
open PySem L2
section
variable {P : Program} {w : World} {K : PySem.W.Frag} {mg : Str → Option Value} {base : Heap}
def sp_Store_trial (T : Txt K mg) : Sp := fun vs H Q _ => match vs with
  | [.ref o] => ∃ tb st pl m, ShO T H o tb st pl m ∧ ∀ a H', H a = none → Same H H' → TrO T H' a o st pl m → Q (.ref a) H'
  | _ => False
def t_Store_trial (w : World) (T : Txt K mg) : TS := tRet (tMake T.a_Trial (sp_Trial___init T) [] E0 (tCons (tVar 0) (tNil)))
theorem len_Store_trial (T : Txt K mg) : ∀ (vs : List V) (H : Hp) (Q : VK) (E : XK), sp_Store_trial T vs H Q E → vs.length = (["self"] : List Str).length := by
  intro vs H Q E h
  unfold sp_Store_trial at h
  split at h
  all_goals first | rfl | exact h.elim
theorem rd_Store_trial (T : Txt K mg) (vs : List V) (H : Hp) (Q : VK) (E : XK) (h : sp_Store_trial T vs H Q E) : t_Store_trial w T { nx := fun _ H' => Q .non H', rt := Q } (start ["self"] vs) H := by
  match vs, h with
  | [.ref o], h =>
  obtain ⟨tb, st, pl, m, sh, q⟩ := h
  unfold t_Store_trial
  walk_at "st"
  repeat walk_at "w"
  intro x dx x0 dx0 ne
  have s1 : Same H (upd (upd H dx (.own x)) x (.ins T.a_Trial dx [])) := fun b u hb => by rw [upd_ne (ne_of_none hb x0), upd_ne (ne_of_none hb dx0)]; exact hb
  have hx : (upd (upd H dx (.own x)) x (.ins T.a_Trial dx [])) x = some (.ins T.a_Trial dx []) := upd_same
  generalize upd (upd H dx (.own x)) x (.ins T.a_Trial dx []) = H1 at s1 hx ⊢
  have xo : x ≠ o := by
    obtain ⟨dy, ho⟩ := sh
    exact (ne_of_none ho x0).symm
  exact ⟨o, dx, tb, st, pl, m, rfl, hx, xo, sh.mono s1, fun H2 b2 tr => ⟨rfl, q x H2 x0 (CP.Same.sb s1 x0 b2) tr⟩⟩

theorem ok_Store_trial (T : Txt K mg) : FnOk P w K mg base CX0 3 T.a_Store_trial T.fd_Store_trial ["self"] (sp_Store_trial T) :=
  T.F_Store_trial.ok sc_Store_trial (len_Store_trial T) fun cdv A outer s H vs Q E hr h => ⟨t_Store_trial w T, (pss_one (ps_ret (pe_make T.k_Trial (ok_Trial___init T) (hr.mono (by decide)) (by rfl) T.m_Trial (b_Trial___init T) .nil pass0 (pa_cons (pv 0) pa_nil)))), rd_Store_trial T vs H Q E h⟩
end
end CP

namespace CP
open PySem L2
section
variable {P : Program} {w : World} {K : PySem.W.Frag} {mg : Str → Option Value} {base : Heap}
def sp_Trial___enter (T : Txt K mg) : Sp := fun vs H Q _ => match vs with
  | [.ref a] => ∃ o tb st pl m, TrO T H a o st pl m ∧ ShO T H o tb st pl m ∧ ∀ H', SB a H H' → TrO T H' a o st pl m → Q (.ref o) H'
  | _ => False
def t_Trial___enter (w : World) (T : Txt K mg) : TS := tSeq (tAsg (tFld K (tVar 0) "store") (gName 1)) (tSeq (sFld K (tVar 0) (tFld K (tVar 1) "state") "state") (tSeq (sFld K (tVar 0) (tFld K (tVar 1) "most") "most") (tSeq (sFld K (tVar 0) (tFld K (tVar 1) "past") "past") (tRet (tVar 1)))))
theorem len_Trial___enter (T : Txt K mg) : ∀ (vs : List V) (H : Hp) (Q : VK) (E : XK), sp_Trial___enter T vs H Q E → vs.length = (["self"] : List Str).length := by
  intro vs H Q E h
  unfold sp_Trial___enter at h
  split at h
  all_goals first | rfl | exact h.elim
theorem rd_Trial___enter (T : Txt K mg) (vs : List V) (H : Hp) (Q : VK) (E : XK) (h : sp_Trial___enter T vs H Q E) : t_Trial___enter w T { nx := fun _ H' => Q .non H', rt := Q } (start ["self", "store"] vs) H := by
  match vs, h with
  | [.ref a], h =>
  obtain ⟨o, tb, st, pl, m, tr, sh, q⟩ := h
  have ne := sh.ne_tr tr
  obtain ⟨dx, ha⟩ := tr
  obtain ⟨dy, ho⟩ := sh
  unfold t_Trial___enter
  walk_at "st"
  repeat walk_at "w"
  refine r_fget ha T.c_Trial T.n_Trial_store (by rfl) ?_
  repeat walk_at "w"
  refine r_fget ho T.c_Store T.n_Store_state (by rfl) ?_
  repeat walk_at "w"
  refine r_fput ha T.c_Trial T.n_Trial_state (by show (4 : Nat) < 1000; decide) fun H1 b1 h1 => ?_
  have ho1 := b1 _ _ ne.symm ho
  repeat walk_at "w"
  refine r_fget ho1 T.c_Store T.n_Store_most (by rfl) ?_
  repeat walk_at "w"
  refine r_fput h1 T.c_Trial T.n_Trial_most (by show (4 : Nat) < 1000; decide) fun H2 b2 h2 => ?_
  have ho2 := b2 _ _ ne.symm ho1
  repeat walk_at "w"
  refine r_fget ho2 T.c_Store T.n_Store_past (by rfl) ?_
  repeat walk_at "w"
  refine r_fput h2 T.c_Trial T.n_Trial_past (by show (4 : Nat) < 1000; decide) fun H3 b3 h3 => ?_
  repeat walk_at "w"
  exact q H3 (fun b u n e => b3 _ _ n (b2 _ _ n (b1 _ _ n e))) ⟨dx, h3⟩

theorem ok_Trial___enter (T : Txt K mg) : FnOk P w K mg base CX0 1 T.a_Trial___enter T.fd_Trial___enter ["self"] (sp_Trial___enter T) :=
  T.F_Trial___enter.ok sc_Trial___enter (len_Trial___enter T) fun cdv A outer s H vs Q E hr h => ⟨t_Trial___enter w T, (pss_cons (ps_set (i := 1) sc_Trial___enter.nd rfl (Or.inl rfl) (pe_fld (pv 0) rfl))
      (pss_cons (ps_fld (pv 0) (pe_fld (pv 1) rfl) rfl)
      (pss_cons (ps_fld (pv 0) (pe_fld (pv 1) rfl) rfl)
      (pss_cons (ps_fld (pv 0) (pe_fld (pv 1) rfl) rfl)
      (pss_one (ps_ret (pv 1))))))), rd_Trial___enter T vs H Q E h⟩
end
end CP

namespace CP
open PySem L2
section
variable {P : Program} {w : World} {K : PySem.W.Frag} {mg : Str → Option Value} {base : Heap}
def sp_Trial___exit (T : Txt K mg) : Sp := fun vs H Q _ => match vs with
  | [.ref a, _, _, _] => ∃ o tb st pl m, TrO T H a o st pl m ∧ ShO T H o tb st pl m ∧ ∀ H', Same H H' → Q .non H'
  | _ => False
def t_Trial___exit (w : World) (T : Txt K mg) : TS := tSeq (sFld K (tFld K (tVar 0) "store") (tFld K (tVar 0) "state") "state") (tSeq (sFld K (tFld K (tVar 0) "store") (tFld K (tVar 0) "most") "most") (sFld K (tFld K (tVar 0) "store") (tFld K (tVar 0) "past") "past"))
theorem len_Trial___exit (T : Txt K mg) : ∀ (vs : List V) (H : Hp) (Q : VK) (E : XK), sp_Trial___exit T vs H Q E → vs.length = (["self", "kind", "value", "trace"] : List Str).length := by
  intro vs H Q E h
  unfold sp_Trial___exit at h
  split at h
  all_goals first | rfl | exact h.elim
theorem rd_Trial___exit (T : Txt K mg) (vs : List V) (H : Hp) (Q : VK) (E : XK) (h : sp_Trial___exit T vs H Q E) : t_Trial___exit w T { nx := fun _ H' => Q .non H', rt := Q } (start ["self", "kind", "value", "trace"] vs) H := by
  match vs, h with
  | [.ref a, _, _, _], h =>
  obtain ⟨o, tb, st, pl, m, tr, sh, q⟩ := h
  have ne := sh.ne_tr tr
  obtain ⟨dx, ha⟩ := tr
  obtain ⟨dy, ho⟩ := sh
  unfold t_Trial___exit
  walk_at "st"
  repeat walk_at "w"
  refine r_fget ha T.c_Trial T.n_Trial_state (by rfl) ?_
  repeat walk_at "w"
  refine r_fget ha T.c_Trial T.n_Trial_store (by rfl) ?_
  refine r_fput ho T.c_Store T.n_Store_state (by show (4 : Nat) < 1000; decide) fun H1 b1 h1 => ?_
  have ha1 := b1 _ _ ne ha
  repeat walk_at "w"
  refine r_fget ha1 T.c_Trial T.n_Trial_most (by rfl) ?_
  repeat walk_at "w"
  refine r_fget ha1 T.c_Trial T.n_Trial_store (by rfl) ?_
  refine r_fput h1 T.c_Store T.n_Store_most (by show (4 : Nat) < 1000; decide) fun H2 b2 h2 => ?_
  have ha2 := b2 _ _ ne ha1
  repeat walk_at "w"
  refine r_fget ha2 T.c_Trial T.n_Trial_past (by rfl) ?_
  repeat walk_at "w"
  refine r_fget ha2 T.c_Trial T.n_Trial_store (by rfl) ?_
  refine r_fput h2 T.c_Store T.n_Store_past (by show (4 : Nat) < 1000; decide) fun H3 b3 h3 => ?_
  refine q H3 fun b u e => ?_
  by_cases z : b = o
  · subst z
    rw [ho] at e
    rw [← e]
    exact h3
  · exact b3 _ _ z (b2 _ _ z (b1 _ _ z e))

theorem ok_Trial___exit (T : Txt K mg) : FnOk P w K mg base CX0 1 T.a_Trial___exit T.fd_Trial___exit ["self", "kind", "value", "trace"] (sp_Trial___exit T) :=
  T.F_Trial___exit.ok sc_Trial___exit (len_Trial___exit T) fun cdv A outer s H vs Q E hr h => ⟨t_Trial___exit w T, (pss_cons (ps_fld (pe_fld (pv 0) rfl) (pe_fld (pv 0) rfl) rfl)
      (pss_cons (ps_fld (pe_fld (pv 0) rfl) (pe_fld (pv 0) rfl) rfl)
      (pss_one (ps_fld (pe_fld (pv 0) rfl) (pe_fld (pv 0) rfl) rfl)))), rd_Trial___exit T vs H Q E h⟩
end
end CP

namespace CP
open PySem L2
section
variable {P : Program} {w : World} {K : PySem.W.Frag} {mg : Str → Option Value} {base : Heap}
open NdefX LamX
def sp_Store_attempt (T : Txt K mg) : Sp := fun vs H Q _ => match vs with
  | [.ref o, .ref f] => ∃ c' tb st pl m, ShO T H o tb st pl m ∧ H f = some (FnO f (mk_action c')) ∧ H c' = some (CodeO c' qn_action) ∧ ∀ H', Same H H' → Q m H'
  | _ => False
def t_Store_attempt (w : World) (T : Txt K mg) : TS := tWith T.a_Trial (sp_Trial___enter T) (sp_Trial___exit T) 2 (tMeth T.a_Store "trial" (sp_Store_trial T) [] E0 (tVar 0) tNil) (tRet (NdefX.tCallN mk_action 1 [] (spn_action T) E0 (tCons (tVar 2) (tNil))))
theorem len_Store_attempt (T : Txt K mg) : ∀ (vs : List V) (H : Hp) (Q : VK) (E : XK), sp_Store_attempt T vs H Q E → vs.length = (["self", "action"] : List Str).length := by
  intro vs H Q E h
  unfold sp_Store_attempt at h
  split at h
  all_goals first | rfl | exact h.elim
theorem rd_Store_attempt (T : Txt K mg) (vs : List V) (H : Hp) (Q : VK) (E : XK) (h : sp_Store_attempt T vs H Q E) : t_Store_attempt w T { nx := fun _ H' => Q .non H', rt := Q } (start ["self", "action", "same"] vs) H := by
  match vs, h with
  | [.ref o, .ref f], h =>
  obtain ⟨c', tb, st, pl, m, sh, hf, hc, q⟩ := h
  unfold t_Store_attempt
  walk_at "st"
  repeat walk_at "w"
  obtain ⟨dx, ho⟩ := id sh
  refine r_with ?_
  repeat walk_at "w"
  refine ⟨o, dx, _, rfl, ho, by rfl, ?_⟩
  repeat walk_at "w"
  refine ⟨tb, st, pl, m, sh, fun a H1 a0 s1 tr => ?_⟩
  have sh1 := sh.mono s1
  obtain ⟨da, ha⟩ := id tr
  refine ⟨a, da, _, rfl, ha, ⟨o, tb, st, pl, m, tr, sh1, fun H2 b2 tr2 => ?_⟩⟩
  have s2 : Same H H2 := CP.Same.sb s1 a0 b2
  have sh2 := sh.mono s2
  dsimp only [List.set_cons_succ, List.set_cons_zero]
  repeat walk_at "w"
  refine ⟨f, c', rfl, CP.Same.to s2 hf, ?_⟩
  repeat walk_at "w"
  refine ⟨CP.Same.to s2 hf, CP.Same.to s2 hc, o, tb, st, pl, m, rfl, sh2, ?_⟩
  exact ⟨o, tb, st, pl, m, tr2, sh2, fun H3 s3 => q H3 (s2.trans s3)⟩

theorem ok_Store_attempt (T : Txt K mg) : FnOk P w K mg base CX0 12 T.a_Store_attempt T.fd_Store_attempt ["self", "action"] (sp_Store_attempt T) :=
  T.F_Store_attempt.ok sc_Store_attempt (len_Store_attempt T) fun cdv A outer s H vs Q E hr h => ⟨t_Store_attempt w T, (pss_one (ps_with (i := 2) (pe_meth0 (pv 0) T.c_Store T.M_Store_trial (ok_Store_trial T) (hr.mono (by decide)) (b_Store_trial T) .nil pass0) T.M_Trial___enter T.M_Trial___exit (ok_Trial___enter T) (ok_Trial___exit T) (hr.mono (by decide)) (b_Trial___enter T) (b_Trial___exit T) sc_Store_attempt.nd rfl (Or.inl rfl) (fun _ _ z => z) (pss_one (ps_ret (NdefX.pe_calln (mk := mk_action) (cl := []) (fr := []) (js := []) (fun f c' => nok_action T f c') (fun _ => rfl) (fun _ => caps_nil) (hr.mono (by decide)) (Nat.le_refl _) pass0 (i := 1) rfl (Or.inl rfl) (pa_cons (pv 2) pa_nil)))))), rd_Store_attempt T vs H Q E h⟩
end
end CP

namespace CP
open PySem L2 LamX
section
variable {P : Program} {w : World} {K : PySem.W.Frag} {mg : Str → Option Value} {base : Heap}
open NdefX LamX
def sp_law (T : Txt K mg) : Sp := fun vs H Q _ => ∃ (a : Addr) (ns : List Int), vs = [.ref a] ∧ SqL K H a (ns.map V.int) ∧ ns.length ≤ 63 ∧ H T.tP = some (.tbl #[]) ∧ ∀ H', Q (.bl true) H'
def sp_top (K : PySem.W.Frag) (P : Addr) : Sp := fun vs H Q _ => ∃ (a : Addr) (ns : List Int), vs = [.ref a] ∧ SqL K H a (ns.map V.int) ∧ ns.length ≤ 63 ∧ H P = some (.tbl #[]) ∧ ∀ H', Q (.bl true) H'
theorem sp_law_top (T : Txt K mg) (vs : List V) (H : Hp) (Q : VK) (E : XK) (z : sp_top K T.tP vs H Q E) : sp_law T vs H Q E := z
theorem kbc_Store___init (T : Txt K mg) : KBn K T.fd_Store___init ["self", "table", "values"] 1 ["values", "table"] (fun us ws => us ++ ws.reverse) (fun vs zs => vs ++ zs.reverse) :=
  Fun.kbn T.F_Store___init (fun _ _ _ _ _ _ us ws h1 h2 => match us, ws, h1, h2 with | [_], [_, _], _, _ => rfl) fun r1 r2 => r1.append r2.reverse
theorem cut_ints (ns : List Int) (lo hi : Option Int) : ∃ ms : List Int, cutV (ns.map V.int) lo hi = ms.map V.int := by
  unfold cutV
  rw [← List.map_drop, ← List.map_take]
  exact ⟨_, rfl⟩
theorem pow20 : CPw 10 20 := ⟨by decide, by decide, by decide +kernel⟩
theorem pow20v : (10 : Int) ^ (20 : Int).toNat = 100000000000000000000 := by decide +kernel
theorem pow9 : CPw 10 9 := ⟨by decide, by decide, by decide +kernel⟩
theorem pow9v : (10 : Int) ^ (9 : Int).toNat = 1000000000 := by decide +kernel
theorem ext_seq {H H' : Hp} {a : Addr} {xs : List V} (k : ExtN H H') (h : SqL K H a xs) : SqL K H' a xs := by
  rcases h with (h | ⟨o, h⟩) | h
  · exact .inl (.inl (k _ _ h (fun _ z => by cases z)))
  · exact .inl (.inr ⟨o, k _ _ h (fun _ z => by cases z)⟩)
  · exact .inr h
theorem sh_ext {T : Txt K mg} {H H' : Hp} {o : Addr} {hi wi : Int} {ld : List (List Key × V)} {m : V} {n : Nat} (k : ExtN H H') (h : ShAt T H o hi wi ld m n) : ShAt T H' o hi wi ld m n := by
  obtain ⟨tb, st, pl, dv, dl, ps, ⟨dx, h1⟩, ⟨dt, p, e1, ws, e2, e3⟩, ⟨g1, g2, g3⟩, h4, h5⟩ := h
  exact ⟨tb, st, pl, dv, dl, ps, ⟨dx, k _ _ h1 (fun _ z => by cases z)⟩, ⟨dt, p, k _ _ e1 (fun _ z => by cases z), ws, k _ _ e2 (fun _ z => by cases z), pd_mono e3 fun v r ⟨t, a, b, e, x1, x2, x3⟩ => ⟨t, a, b, e, k _ _ x1 (fun _ z => by cases z), k _ _ x2 (fun _ z => by cases z), k _ _ x3 (fun _ z => by cases z)⟩⟩,
    ⟨k _ _ g1 (fun _ z => by cases z), k _ _ g2 (fun _ z => by cases z), k _ _ g3 (fun _ z => by cases z)⟩, k _ _ h4 (fun _ z => by cases z), h5⟩
theorem plain_new (T : Txt K mg) {H : Hp} {r : Addr} {rows : List Sd} {Q : Addr → Hp → Prop} {E : XK} (hp : RowsAt H r rows) (hR : Rows rows) (q : ∀ o H', H o = none → Same H H' → TabAt T.a_Plain H' o (rows.map srow) → Q o H') :
    ∀ x dx, H x = none → H dx = none → dx ≠ x → sp_Plain___init T (.ref x :: ([.ref r] ++ [])) (upd (upd H dx (.own x)) x (.ins T.a_Plain dx [])) (fun v H2 => v = .non ∧ Q x H2) E := by
  intro o2 dx2 o20 dx20 ne20
  have s7 : Same H (upd (upd H dx2 (.own o2)) o2 (.ins T.a_Plain dx2 [])) := fun b u hb => by rw [upd_ne (ne_of_none hb o20), upd_ne (ne_of_none hb dx20)]; exact hb
  have ho2 : (upd (upd H dx2 (.own o2)) o2 (.ins T.a_Plain dx2 [])) o2 = some (.ins T.a_Plain dx2 []) := upd_same
  generalize upd (upd H dx2 (.own o2)) o2 (.ins T.a_Plain dx2 []) = H7 at s7 ho2 ⊢
  exact ⟨dx2, r, rows, rfl, ho2, hp.mono s7, hR, fun H8 b8 hT8 => ⟨rfl, q o2 H8 o20 (CP.Same.sb s7 o20 b8) hT8⟩⟩
theorem told_shaped (n : Int) : SeqAt.shaped (.list [.tuple [.int n, .list [.int 1, .int 2], .str "x"]]) = true := by
  have x : PyData.canLay0 (.str ("x" : Str)) = true := by decide +kernel
  unfold SeqAt.shaped
  simp [PyData.canLay0, PyData.canLayAll0, PyData.depth, PyData.depthAll] at x ⊢
  exact x
def t_law (w : World) (T : Txt K mg) : TS := tSeq (tFor (iRng1 (tCons (tCB oMax2 (tCons (tC (.int 1)) (tCons (tCB (rLenA K) (tCons (tSl (rSlL K) (tVar 0) tNoPart (tPart (tC (.int 10)))) (tNil))) (tNil)))) (tNil))) (gName 1) (tSeq (tAsg (tOp oMod (tCB (rSum K) (tCons (tSl (rSlL K) (tVar 0) (tPart (tVar 1)) (tPart (tOp oAdd (tVar 1) (tC (.int 1))))) (tNil))) (tOp oPow (tC (.int 10)) (tC (.int 20)))) (gName 2)) (tSeq (tPar 3 4 (tCons (tOp oAdd (tC (.int 2)) (tOp oMod (tVar 2) (tOp oPow (tC (.int 10)) (tC (.int 9))))) (tCons (tOp oAdd (tC (.int 3)) (tOp oDiv (tVar 2) (tOp oPow (tC (.int 10)) (tC (.int 9))))) (tNil)))) (tSeq (tAsg (tMake T.a_Plain (sp_Plain___init T) [] E0 (tCons (tLst (tCons (tTup (tCons (tC (.str "r")) (tCons (tLst (tCons (tC (.str "m")) (tNil))) (tCons (tLst (tCons (tC (.str "n")) (tNil))) (tNil))))) (tCons (tTup (tCons (tC (.str "c")) (tCons (tLst (tCons (tC (.str "n")) (tNil))) (tCons (tLst (tNil)) (tNil))))) (tNil)))) (tNil))) (gName 5)) (tSeq (tAsg (tMakeK T.a_Store 0 (["values", "table"] : List Str).length (sp_Store___init T) (fun vs zs => vs ++ zs.reverse) E0 tNil (tCons (tDisp ((tC (.str "m"), tVar 3) :: (tC (.str "n"), tVar 4) :: [])) (tCons (tVar 5) (tNil)))) (gName 6)) (tSeq (tIfS (tOr (tTest (tOp rNe (tMethK T.a_Store "lay" 2 (sp_Store_lay T) pmm_Store_lay_k21 E0 (tVar 6) (tCons (tC (.str "x")) (tCons (tLst (tCons (tC (.int 1)) (tCons (tC (.int 2)) (tNil)))) (tNil)))) (tOp oAdd (tVar 4) (tC (.int 2))))) (tTest (tOp (rNeX K) (tMethK T.a_Store "look" 1 (sp_Store_look T) pmm_Store_look_k1 E0 (tVar 6) (tCons (tLst (tCons (tC (.int 1)) (tCons (tC (.int 2)) (tNil)))) (tNil))) (tC (.str "x"))))) (tRet (tC (.bl false))) (tNext)) (tSeq (tIfS (tOr (tTest (tOp rNe (tMethK T.a_Store "grow" 1 (sp_Store_grow T) pmm_Store_grow_k1 E0 (tVar 6) (tCons (tC (.str "n")) (tNil))) (tC (.int 1)))) (tTest (tOp (rNeX K) (tMeth T.a_Store "held" (sp_Store_held T) [] E0 (tVar 6) tNil) (tLst (tCons (tTup (tCons (tOp oAdd (tVar 4) (tC (.int 3))) (tCons (tLst (tCons (tC (.int 1)) (tCons (tC (.int 2)) (tNil)))) (tCons (tC (.str "x")) (tNil))))) (tNil)))))) (tRet (tC (.bl false))) (tNext)) (tSeq (tIfS (tOr (tTest (tOp rNotN (tMethK T.a_Store "limit" 1 (sp_Store_limit T) pmm_Store_limit_k1 E0 (tVar 6) (tCons (tOp oAdd (tVar 4) (tC (.int 4))) (tNil))) (tC .non))) (tOr (tTest (tOp rNe (tProp T.a_Store (sp_Store_room T) [] E0 (tVar 6)) (tOp oAdd (tVar 4) (tC (.int 4))))) (tTest (tOp (rNeX K) (tMethK T.a_Store "take" 1 (sp_Store_take T) pmm_Store_take_k1 E0 (tVar 6) (tCons (tLst (tCons (tC (.int 1)) (tCons (tC (.int 2)) (tNil)))) (tNil))) (tC (.str "x")))))) (tRet (tC (.bl false))) (tNext)) (tSeq (NdefX.tNdefM (ntab T) 7 mk_action) (tIfS (tOr (tTest (tOp rNe (tMethK T.a_Store "attempt" 1 (sp_Store_attempt T) pmm_Store_attempt_k1 E0 (tVar 6) (tCons (tVar 7) (tNil))) (tOp oAdd (tVar 4) (tC (.int 4))))) (tTest (tOp rNe (tCB (rLenO T.a_Store (sp_Store___len T) E0) (tCons (tVar 6) (tNil))) (tC (.int 0))))) (tRet (tC (.bl false))) (tNext))))))))))) (tRet (tC (.bl true)))
theorem len_law (T : Txt K mg) : ∀ (vs : List V) (H : Hp) (Q : VK) (E : XK), sp_law T vs H Q E → vs.length = (["_law_script"] : List Str).length := by
  rintro vs H Q E ⟨a, ns, rfl, h⟩
  rfl
theorem rd_law (T : Txt K mg) (vs : List V) (H : Hp) (Q : VK) (E : XK) (h : sp_law T vs H Q E) : t_law w T { nx := fun _ H' => Q .non H', rt := Q } (start ["_law_script", "_law_at", "_law_number_here", "_law_high", "_law_wide", "_law_board", "_law_shelf", "_law_action"] vs) H := by
  obtain ⟨a, ns, rfl, ha, hn, hP, q⟩ := h
  unfold t_law
  walk_at "st"
  repeat walk_at "w"
  rename_i l0 H0 l00 s0 l1
  have hc := cutV_length (ns.map V.int) none (some 10)
  rw [List.length_map] at hc
  generalize (cutV (ns.map V.int) none (some 10)).length = k at hc ⊢
  have hj : -(2 ^ 62) ≤ (if (k : Int) > 1 then (k : Int) else 1) ∧ (if (k : Int) > 1 then (k : Int) else 1) < 2 ^ 62 ∧ (if (k : Int) > 1 then (k : Int) else 1) < 2 ^ 10 := by split <;> omega
  generalize (if (k : Int) > 1 then (k : Int) else 1) = j at hj ⊢
  refine r_rng hj.1 hj.2.1 ?_
  have tb0 : TabsN (ntab T) H0 := TabsN.ext (fun p hp => by rw [List.mem_singleton.mp hp]; exact TabN.nil hP) s0
  refine for_range (fun i σ H' => SqL K H' a (ns.map V.int) ∧ TabsN (ntab T) H' ∧ ∃ x1 x2 x3 x4 x5 x6 x7, σ = [some (.ref a), x1, x2, x3, x4, x5, x6, x7]) ⟨L2.Same.seq s0 ha, tb0, _, _, _, _, _, _, _, rfl⟩ ?_ ?_
  · rintro i σ H1 hi ⟨ha1, tb1, x1, x2, x3, x4, x5, x6, x7, rfl⟩
    repeat walk_at "w"
    rename_i l H2 l20 s2 l2
    obtain ⟨ms, e⟩ := cut_ints ns (some (0 + (i : Int))) (some (0 + (i : Int) + 1))
    rw [e] at l2
    refine r_sum (.of l2) ?_
    generalize ms.sum = c
    repeat walk_at "s"
    refine r_I pow20 ?_
    rw [pow20v]
    refine r_I (by decide) ?_
    have c0 := Int.emod_nonneg c (b := 100000000000000000000) (by decide)
    have c1 := Int.emod_lt_of_pos c (b := 100000000000000000000) (by decide)
    generalize c % 100000000000000000000 = num at c0 c1 ⊢
    repeat walk_at "w"
    refine r_I pow9 ?_
    rw [pow9v]
    repeat walk_at "w"
    refine r_I pow9 ?_
    rw [pow9v]
    repeat walk_at "w"
    rename_i a1 G1 a10 u1 g1 a2 G2 a20 u2 g2 t1 G3 t10 u3 g3 a4 G4 a40 u4 g4 a5 G5 a50 u5 g5 t2 G6 t20 u6 g6 r7 G7 r70 u7 g7
    have hrow : RowsAt G7 r7 brd := by
      have v6 := u6.trans u7
      have v5 := u5.trans v6
      have v4 := u4.trans v5
      have v3 := u3.trans v4
      have v2 := u2.trans v3
      exact ⟨_, g7, .cons ⟨t1, a1, a2, rfl, v4 _ _ g3, v2 _ _ g1, v3 _ _ g2⟩ (.cons ⟨t2, a4, a5, rfl, u7 _ _ g6, v5 _ _ g4, v6 _ _ g5⟩ .nil)⟩
    have S7 : Same H1 G7 := ((((((s2.trans u1).trans u2).trans u3).trans u4).trans u5).trans u6).trans u7
    clear u1 u2 u3 u4 u5 u6 u7 g1 g2 g3 g4 g5 g6 g7 a10 a20 t10 a40 a50 t20 r70
    have d1 := Int.emod_nonneg num (b := 1000000000) (by decide)
    have d2 := Int.emod_lt_of_pos num (b := 1000000000) (by decide)
    have d3 : 0 ≤ num / 1000000000 := by omega
    have d4 : num / 1000000000 < 100000000000 := by omega
    generalize num % 1000000000 = lo at d1 d2 ⊢
    generalize num / 1000000000 = up at d3 d4 ⊢
    refine plain_new T hrow brd_ok fun tb H3 tb0' s3 htab => ?_
    rw [brd_srow] at htab
    repeat walk_at "w"
    refine r_disp2g fun d H4 d0 s4 hd4 => ?_
    repeat walk_at "w"
    refine disp_end2 hd4 fun H5 b5 hd5 => ?_
    have s45 : Same H3 H5 := CP.Same.sb s4 d0 b5
    have e5 : setD [(("m" : Str), 2 + lo)] "n" (3 + up) = szV (2 + lo) (3 + up) := rfl
    rw [e5] at hd5
    have hnb : NumB (2 + lo) (3 + up) := ⟨by omega, by omega, by omega, by omega⟩
    have hnb2 : NumB (2 + lo) (3 + up + 1) := ⟨by omega, by omega, by omega, by omega⟩
    generalize 2 + lo = hi' at hnb hnb2 hd5 ⊢
    generalize 3 + up = wi at hnb hnb2 hd5 ⊢
    repeat walk_at "w"
    refine ⟨rfl, rfl, fun o dxo o0 dxo0 neo => ?_⟩
    have s6 : Same H5 (upd (upd H5 dxo (.own o)) o (.ins T.a_Store dxo [])) := fun b u hb => by rw [upd_ne (ne_of_none hb o0), upd_ne (ne_of_none hb dxo0)]; exact hb
    have ho6 : (upd (upd H5 dxo (.own o)) o (.ins T.a_Store dxo [])) o = some (.ins T.a_Store dxo []) := upd_same
    generalize upd (upd H5 dxo (.own o)) o (.ins T.a_Store dxo []) = H6 at s6 ho6 ⊢
    refine ⟨tb, d, dxo, hi', wi, rfl, rfl, ho6, (htab.mono s45).mono s6, CP.Same.to s6 hd5, hnb, fun H7 b7 sh7 => ⟨rfl, ?_⟩⟩
    have o1 : H1 o = none := (S7.trans (s3.trans s45)).free o0
    have stepS : ∀ {Ha Hb : Hp}, Same H1 Ha → SB o Ha Hb → Same H1 Hb := fun s b x u e => b x u (ne_of_none e o1) (s x u e)
    have S17 := stepS (((S7.trans s3).trans s45).trans s6) b7
    obtain ⟨_, _, _, _, _, _, ⟨dx, ho7⟩, _⟩ := id sh7
    repeat walk_at "w"
    refine r_methK ?_
    repeat walk_at "w"
    refine ⟨o, dx, _, rfl, ho7, by rfl, ?_⟩
    repeat walk_at "w"
    rename_i c8 H8 c80 s8 hc8
    refine ⟨rfl, (show sp_Store_lay T [.ref o, .ref c8, .str "x"] _ _ _ from ⟨hi', wi, 0, sh7.mono s8, hnb, by decide, hc8, fun H9 b9 sh9 => ?_⟩)⟩
    have S19 := stepS (S17.trans s8) b9
    repeat walk_at "w"
    refine (if_neg (by simp)).mpr ?_
    repeat walk_at "w"
    obtain ⟨_, _, _, _, _, _, ⟨dx9, ho9⟩, _⟩ := id sh9
    refine r_methK ?_
    repeat walk_at "w"
    refine ⟨o, dx9, _, rfl, ho9, by rfl, ?_⟩
    repeat walk_at "w"
    rename_i c10 H10 c100 s10 hc10
    refine ⟨rfl, (show sp_Store_look T [.ref o, .ref c10] _ _ _ from ⟨hi', wi, _, _, _, sh9.mono s10, hnb, hc10, fun H11 s11 => ?_⟩)⟩
    have S11 := (S19.trans s10).trans s11
    have sh11 := (sh9.mono s10).mono s11
    have ho11 := CP.Same.to s11 (CP.Same.to s10 ho9)
    refine r_neXS ?_
    rw [decide_eq_true rfl]
    repeat walk_at "w"
    refine r_methK ?_
    repeat walk_at "w"
    refine ⟨o, dx9, _, rfl, ho11, by rfl, ?_⟩
    repeat walk_at "w"
    refine ⟨rfl, (show sp_Store_grow T [.ref o, .str "n"] _ _ _ from ⟨hi', wi, _, 1, rfl, sh11, hnb, hnb2, by decide, fun H12 b12 sh12 => ?_⟩)⟩
    have S12 := stepS S11 b12
    obtain ⟨_, _, _, _, _, _, ⟨dx12, ho12⟩, _⟩ := id sh12
    repeat walk_at "w"
    refine (if_neg (by simp)).mpr ?_
    repeat walk_at "w"
    refine ⟨o, dx12, _, rfl, ho12, by rfl, ?_⟩
    repeat walk_at "w"
    refine ⟨hi', wi + 1, "x", _, _, sh12, hnb2, fun L t c H13 s13 hL ht hcc => ?_⟩
    rw [show wi + 1 + 2 = wi + 3 from by omega] at ht
    have S13 := S12.trans s13
    have sh13 := sh12.mono s13
    have ho13 := CP.Same.to s13 ho12
    repeat walk_at "w"
    rename_i c14 H14 c140 s14 hc14 t15 H15 t150 s15 ht15 l16 H16 l160 s16 hl16
    have S16' : Same H13 H16 := (s14.trans s15).trans s16
    refine .inr (.inl ⟨.list [.tuple [.int (wi + 3), .list [.int 1, .int 2], .str "x"]], .list [.tuple [.int (wi + 3), .list [.int 1, .int 2], .str "x"]],
      .lst (.of (CP.Same.to S16' hL)) (.cons (.tup (.of (CP.Same.to S16' ht)) (.cons (.int _) (.cons (.lst (.of (CP.Same.to S16' hcc)) (.cons (.int _) (.cons (.int _) .nil))) (.cons (.str _) .nil)))) .nil),
      .lst (.of hl16) (.cons (.tup (.of (CP.Same.to s16 ht15)) (.cons (.int _) (.cons (.lst (.of (CP.Same.to s16 (CP.Same.to s15 hc14))) (.cons (.int _) (.cons (.int _) .nil))) (.cons (.str _) .nil)))) .nil), told_shaped _, told_shaped _, ?_⟩)
    have eqs : PyData.eqv (.list [.tuple [.int (wi + 3), .list [.int 1, .int 2], .str "x"]]) (.list [.tuple [.int (wi + 3), .list [.int 1, .int 2], .str "x"]]) = true := by simp [PyData.eqv, PyData.eqvAll]
    rw [eqs]
    have S16 := S13.trans S16'
    have sh16 := sh13.mono S16'
    have ho16 := CP.Same.to S16' ho13
    repeat walk_at "w"
    refine r_methK ?_
    repeat walk_at "w"
    refine ⟨o, dx12, _, rfl, ho16, by rfl, ?_⟩
    repeat walk_at "w"
    obtain ⟨tb', st', pl', dv', dl', ps', hsh, htb, hst, hpl, hps⟩ := id sh16
    refine ⟨rfl, (show sp_Store_limit T [.ref o, .int (wi + 4)] _ _ _ from ⟨tb', st', pl', _, hsh, by have := hnb.2.2.1; omega, fun H17 b17 hsh17 => ?_⟩)⟩
    have S17' := stepS S16 b17
    have sh17 : ShAt T H17 o hi' (wi + 1) [(kx, .str "x")] (.int (wi + 4)) 2 := ⟨tb', st', pl', dv', dl', ps', hsh17, tab_sbo htb hsh b17, hst.sbo hsh b17, lst_sbo hpl hsh b17, hps⟩
    obtain ⟨dx17, ho17⟩ := id hsh17
    repeat walk_at "w"
    refine r_prop ?_
    repeat walk_at "w"
    refine ⟨o, dx17, _, rfl, ho17, tb', st', pl', .int (wi + 4), hsh17, ?_⟩
    repeat walk_at "w"
    refine (if_neg (by simp)).mpr ?_
    repeat walk_at "w"
    refine r_methK ?_
    repeat walk_at "w"
    refine ⟨o, dx17, _, rfl, ho17, by rfl, ?_⟩
    repeat walk_at "w"
    rename_i c18 H18 c180 s18 hc18
    refine ⟨rfl, (show sp_Store_take T [.ref o, .ref c18] _ _ _ from ⟨hi', wi + 1, _, _, 2, sh17.mono s18, hnb2, by decide, hc18, fun H19 b19 sh19 => ?_⟩)⟩
    have S19' := stepS (S17'.trans s18) b19
    refine r_neXS ?_
    rw [decide_eq_true rfl]
    repeat walk_at "w"
    refine ⟨tb1.ext S19', fun f c' H20 e20 n20 tb20 f0 hf hc' => ?_⟩
    have sh20 := sh_ext e20 sh19
    obtain ⟨tb2, st2, pl2, dv2, dl2, ps2, hsh2, _⟩ := id sh20
    obtain ⟨dx20, ho20⟩ := id hsh2
    dsimp only [List.set_cons_succ, List.set_cons_zero]
    repeat walk_at "w"
    refine r_methK ?_
    repeat walk_at "w"
    refine ⟨o, dx20, _, rfl, ho20, by rfl, ?_⟩
    repeat walk_at "w"
    refine ⟨rfl, (show sp_Store_attempt T [.ref o, .ref f] _ _ _ from ⟨c', tb2, st2, pl2, _, hsh2, hf, hc', fun H21 s21 => ?_⟩)⟩
    have sh21 := sh20.mono s21
    repeat walk_at "w"
    refine (if_neg (by simp)).mpr ?_
    repeat walk_at "w"
    refine r_lenO (CP.Same.to s21 ho20) ⟨hi', wi + 1, [], _, _, sh21, 0, rfl, by decide, by decide, ?_⟩
    repeat walk_at "w"
    refine (if_neg (by simp)).mpr ?_
    repeat walk_at "w"
    exact ⟨L2.Same.seq s21 (ext_seq e20 (L2.Same.seq S19' ha1)), tb20.ext s21, _, _, _, _, _, _, _, rfl⟩
  · rintro σ H1 ⟨_, _, x1, x2, x3, x4, x5, x6, x7, rfl⟩
    repeat walk_at "w"
    exact q H1

theorem ok_law (T : Txt K mg) (TB : TabB base mg T.tc T.tP) : FnOk P w K mg base CX0 21 T.a_law T.fd_law ["_law_script"] (sp_law T) :=
  LamP.okC T.F_law T.tcode sc_law (len_law T) fun A outer s H vs Q E hr h => ⟨t_law w T, (pss_cons (ps_for PassesOwn.never rfl (pi_range1 (by rfl) T.n_range (pa_cons (pe_callB (call_maxA rfl) (by rfl) T.n_max (by decide +kernel) (pa_cons pe_int (pa_cons (pe_callB call_lenA (by rfl) T.n_len (by decide +kernel) (pa_cons (pe_slice sl_list (pv 0) po_none (po_some pe_int)) pa_nil)) pa_nil))) pa_nil)) (pg_name (i := 1) sc_law.nd rfl (Or.inl rfl)) (pss_cons (ps_set (i := 2) sc_law.nd rfl (Or.inl rfl) (pe_op op_mod (pe_callB (cr_sum rfl) (by rfl) T.n_sum (by decide +kernel) (pa_cons (pe_slice sl_list (pv 0) (po_some (pv 1)) (po_some (pe_op op_add (pv 1) pe_int))) pa_nil)) (pe_op op_powW pe_int pe_int)))
      (pss_cons (ps_par (i := 3) (j := 4) rfl sc_law.nd rfl rfl (by decide) rfl rfl (pa_cons (pe_op op_add pe_int (pe_op op_mod (pv 2) (pe_op op_powW pe_int pe_int))) (pa_cons (pe_op op_add pe_int (pe_op op_fdivW (pv 2) (pe_op op_powW pe_int pe_int))) pa_nil)) (by rfl))
      (pss_cons (ps_set (i := 5) sc_law.nd rfl (Or.inl rfl) (pe_make T.k_Plain (ok_Plain___init T) (hr.mono (by decide)) (by rfl) T.m_Plain (b_Plain___init T) .nil pass0 (pa_cons (pe_lst (pa_cons (pe_tup (pa_cons pe_str (pa_cons (pe_lst (pa_cons pe_str pa_nil)) (pa_cons (pe_lst (pa_cons pe_str pa_nil)) pa_nil)))) (pa_cons (pe_tup (pa_cons pe_str (pa_cons (pe_lst (pa_cons pe_str pa_nil)) (pa_cons (pe_lst pa_nil) pa_nil)))) pa_nil))) pa_nil)))
      (pss_cons (ps_set (i := 6) sc_law.nd rfl (Or.inl rfl) (pe_makeK0 (gV := fun vs zs => vs ++ zs.reverse) T.k_Store (ok_Store___init T) (hr.mono (by decide)) (by rfl) T.m_Store (kbc_Store___init T) pass0 (pk_cons (pe_disp (pps_cons pe_str (pv 3) (pps_cons pe_str (pv 4) pps_nil)) (by rfl) (by rfl) (fun z => by cases z) (by decide)) (pk_cons (pv 5) pk_nil))))
      (pss_cons (ps_if (PW.pt (pw_or (pt_cmpR op_ne (pe_methK (gV := pmm_Store_lay_k21) (pv 6) T.c_Store T.M_Store_lay (ok_Store_lay T) (hr.mono (by decide)) (kbm_Store_lay_k21 T) pass0 (pk_cons pe_str (pk_cons (pe_lst (pa_cons pe_int (pa_cons pe_int pa_nil))) pk_nil))) (pe_op op_add (pv 4) pe_int) (nomark _)) (pw_or1 (pt_cmpR (op_neX hr.units) (pe_methK (gV := pmm_Store_look_k1) (pv 6) T.c_Store T.M_Store_look (ok_Store_look T) (hr.mono (by decide)) (kbm_Store_look_k1 T) pass0 (pk_cons (pe_lst (pa_cons pe_int (pa_cons pe_int pa_nil))) pk_nil)) pe_str (nomark _))))) (pss_one (ps_ret pe_bl)) pss_nil)
      (pss_cons (ps_if (PW.pt (pw_or (pt_cmpR op_ne (pe_methK (gV := pmm_Store_grow_k1) (pv 6) T.c_Store T.M_Store_grow (ok_Store_grow T) (hr.mono (by decide)) (kbm_Store_grow_k1 T) pass0 (pk_cons pe_str pk_nil)) pe_int (nomark _)) (pw_or1 (pt_cmpR (op_neX hr.units) (pe_meth0 (pv 6) T.c_Store T.M_Store_held (ok_Store_held T) (hr.mono (by decide)) (b_Store_held T) .nil pass0) (pe_lst (pa_cons (pe_tup (pa_cons (pe_op op_add (pv 4) pe_int) (pa_cons (pe_lst (pa_cons pe_int (pa_cons pe_int pa_nil))) (pa_cons pe_str pa_nil)))) pa_nil)) (nomark _))))) (pss_one (ps_ret pe_bl)) pss_nil)
      (pss_cons (ps_if (PW.pt (pw_or (pt_cmpR op_notN1 (pe_methK (gV := pmm_Store_limit_k1) (pv 6) T.c_Store T.M_Store_limit (ok_Store_limit T) (hr.mono (by decide)) (kbm_Store_limit_k1 T) pass0 (pk_cons (pe_op op_add (pv 4) pe_int) pk_nil)) pe_non (nomark _)) (pw_or (pt_cmpR op_ne (pe_prop (pv 6) T.c_Store T.P_Store_room (ok_Store_room T) (hr.mono (by decide)) (b_Store_room T) .nil pass0 rfl) (pe_op op_add (pv 4) pe_int) (nomark _)) (pw_or1 (pt_cmpR (op_neX hr.units) (pe_methK (gV := pmm_Store_take_k1) (pv 6) T.c_Store T.M_Store_take (ok_Store_take T) (hr.mono (by decide)) (kbm_Store_take_k1 T) pass0 (pk_cons (pe_lst (pa_cons pe_int (pa_cons pe_int pa_nil))) pk_nil)) pe_str (nomark _)))))) (pss_one (ps_ret pe_bl)) pss_nil)
      (pss_cons (NdefX.ps_ndefMS (st := st_action) (T := ntab T) (nm := fun _ _ => qn_action) (i := 7) rfl TB rfl (List.mem_singleton.mpr rfl) rfl (fun p hp _ => by rw [List.mem_singleton.mp hp]) (NdefX.ndef_free (sc := defScope s_law) (nsc := C8.fnScope st_action) (fr := []) (by decide +kernel)) rfl rfl rfl sc_law.nd rfl (Or.inl rfl) (by first | exact .inl rfl | exact .inr rfl))
      (pss_one (ps_if (PW.pt (pw_or (pt_cmpR op_ne (pe_methK (gV := pmm_Store_attempt_k1) (pv 6) T.c_Store T.M_Store_attempt (ok_Store_attempt T) (hr.mono (by decide)) (kbm_Store_attempt_k1 T) pass0 (pk_cons (pv 7) pk_nil)) (pe_op op_add (pv 4) pe_int) (nomark _)) (pw_or1 (pt_cmpR op_ne (pe_callB (call_lenO T.M_Store___len (ok_Store___len T) (hr.mono (by decide)) (b_Store___len T) pass0) (by rfl) T.n_len (by decide +kernel) (pa_cons (pv 6) pa_nil)) pe_int (nomark _))))) (pss_one (ps_ret pe_bl)) pss_nil)))))))))))
      (pss_one (ps_ret pe_bl))), rd_law T vs H Q E h⟩
end
end CP

namespace CP
open PySem L2
theorem all_mk {w : World} {l : PySem.W.OpenLaw} {K : PySem.W.Frag} {h : Heap} {mg : Str → Option Value} {fa : Addr} (X : K.In h) (G : h.Ns mainGlobals mg) (hfa : mg "law" = some (.ref fa))
    {fis_whole : Addr} {odis_whole anis_whole : Option Addr} {slis_whole : Array (Option Value)} {ocis_whole kVis_whole dcis_whole pmis_whole cdis_whole ctis_whole : Value}
    {fis_count : Addr} {odis_count anis_count : Option Addr} {slis_count : Array (Option Value)} {ocis_count kVis_count dcis_count pmis_count cdis_count ctis_count : Value}
    {fis_letter : Addr} {odis_letter anis_letter : Option Addr} {slis_letter : Array (Option Value)} {ocis_letter kVis_letter dcis_letter pmis_letter cdis_letter ctis_letter : Value}
    {fare_values : Addr} {odare_values anare_values : Option Addr} {slare_values : Array (Option Value)} {ocare_values kVare_values dcare_values pmare_values cdare_values ctare_values : Value}
    {fcheck_sizes : Addr} {odcheck_sizes ancheck_sizes : Option Addr} {slcheck_sizes : Array (Option Value)} {occheck_sizes kVcheck_sizes dccheck_sizes pmcheck_sizes cdcheck_sizes ctcheck_sizes : Value}
    {fare_letters : Addr} {odare_letters anare_letters : Option Addr} {slare_letters : Array (Option Value)} {ocare_letters kVare_letters dcare_letters pmare_letters cdare_letters ctare_letters : Value}
    {fare_named : Addr} {odare_named anare_named : Option Addr} {slare_named : Array (Option Value)} {ocare_named kVare_named dcare_named pmare_named cdare_named ctare_named : Value}
    {fare_sides : Addr} {odare_sides anare_sides : Option Addr} {slare_sides : Array (Option Value)} {ocare_sides kVare_sides dcare_sides pmare_sides cdare_sides ctare_sides : Value}
    {fvalued : Addr} {odvalued anvalued : Option Addr} {slvalued : Array (Option Value)} {ocvalued kVvalued dcvalued pmvalued cdvalued ctvalued : Value}
    {frest_of : Addr} {odrest_of anrest_of : Option Addr} {slrest_of : Array (Option Value)} {ocrest_of kVrest_of dcrest_of pmrest_of cdrest_of ctrest_of : Value}
    {fPlain___init : Addr} {odPlain___init anPlain___init : Option Addr} {slPlain___init : Array (Option Value)} {ocPlain___init kVPlain___init dcPlain___init pmPlain___init cdPlain___init ctPlain___init : Value}
    {fPlain_sizes : Addr} {odPlain_sizes anPlain_sizes : Option Addr} {slPlain_sizes : Array (Option Value)} {ocPlain_sizes kVPlain_sizes dcPlain_sizes pmPlain_sizes cdPlain_sizes ctPlain_sizes : Value}
    {fPlain___eq : Addr} {odPlain___eq anPlain___eq : Option Addr} {slPlain___eq : Array (Option Value)} {ocPlain___eq kVPlain___eq dcPlain___eq pmPlain___eq cdPlain___eq ctPlain___eq : Value}
    {fcheck_table : Addr} {odcheck_table ancheck_table : Option Addr} {slcheck_table : Array (Option Value)} {occheck_table kVcheck_table dccheck_table pmcheck_table cdcheck_table ctcheck_table : Value}
    {fis_ahead : Addr} {odis_ahead anis_ahead : Option Addr} {slis_ahead : Array (Option Value)} {ocis_ahead kVis_ahead dcis_ahead pmis_ahead cdis_ahead ctis_ahead : Value}
    {fordered : Addr} {odordered anordered : Option Addr} {slordered : Array (Option Value)} {ocordered kVordered dcordered pmordered cdordered ctordered : Value}
    {fcheck_own : Addr} {odcheck_own ancheck_own : Option Addr} {slcheck_own : Array (Option Value)} {occheck_own kVcheck_own dccheck_own pmcheck_own cdcheck_own ctcheck_own : Value}
    {fStore___init : Addr} {odStore___init anStore___init : Option Addr} {slStore___init : Array (Option Value)} {ocStore___init kVStore___init dcStore___init pmStore___init cdStore___init ctStore___init : Value}
    {fStore_room : Addr} {odStore_room anStore_room : Option Addr} {slStore_room : Array (Option Value)} {ocStore_room kVStore_room dcStore_room pmStore_room cdStore_room ctStore_room : Value}
    {fStore_limit : Addr} {odStore_limit anStore_limit : Option Addr} {slStore_limit : Array (Option Value)} {ocStore_limit kVStore_limit dcStore_limit pmStore_limit cdStore_limit ctStore_limit : Value}
    {fStore_spot_of : Addr} {odStore_spot_of anStore_spot_of : Option Addr} {slStore_spot_of : Array (Option Value)} {ocStore_spot_of kVStore_spot_of dcStore_spot_of pmStore_spot_of cdStore_spot_of ctStore_spot_of : Value}
    {fStore_check_cell : Addr} {odStore_check_cell anStore_check_cell : Option Addr} {slStore_check_cell : Array (Option Value)} {ocStore_check_cell kVStore_check_cell dcStore_check_cell pmStore_check_cell cdStore_check_cell ctStore_check_cell : Value}
    {fStore_check_room : Addr} {odStore_check_room anStore_check_room : Option Addr} {slStore_check_room : Array (Option Value)} {ocStore_check_room kVStore_check_room dcStore_check_room pmStore_check_room cdStore_check_room ctStore_check_room : Value}
    {fStore_change : Addr} {odStore_change anStore_change : Option Addr} {slStore_change : Array (Option Value)} {ocStore_change kVStore_change dcStore_change pmStore_change cdStore_change ctStore_change : Value}
    {fStore_lay : Addr} {odStore_lay anStore_lay : Option Addr} {slStore_lay : Array (Option Value)} {ocStore_lay kVStore_lay dcStore_lay pmStore_lay cdStore_lay ctStore_lay : Value}
    {fStore_look : Addr} {odStore_look anStore_look : Option Addr} {slStore_look : Array (Option Value)} {ocStore_look kVStore_look dcStore_look pmStore_look cdStore_look ctStore_look : Value}
    {fStore_take : Addr} {odStore_take anStore_take : Option Addr} {slStore_take : Array (Option Value)} {ocStore_take kVStore_take dcStore_take pmStore_take cdStore_take ctStore_take : Value}
    {fStore___len : Addr} {odStore___len anStore___len : Option Addr} {slStore___len : Array (Option Value)} {ocStore___len kVStore___len dcStore___len pmStore___len cdStore___len ctStore___len : Value}
    {fStore_held : Addr} {odStore_held anStore_held : Option Addr} {slStore_held : Array (Option Value)} {ocStore_held kVStore_held dcStore_held pmStore_held cdStore_held ctStore_held : Value}
    {fStore_grow : Addr} {odStore_grow anStore_grow : Option Addr} {slStore_grow : Array (Option Value)} {ocStore_grow kVStore_grow dcStore_grow pmStore_grow cdStore_grow ctStore_grow : Value}
    {fStore_trial : Addr} {odStore_trial anStore_trial : Option Addr} {slStore_trial : Array (Option Value)} {ocStore_trial kVStore_trial dcStore_trial pmStore_trial cdStore_trial ctStore_trial : Value}
    {fStore_attempt : Addr} {odStore_attempt anStore_attempt : Option Addr} {slStore_attempt : Array (Option Value)} {ocStore_attempt kVStore_attempt dcStore_attempt pmStore_attempt cdStore_attempt ctStore_attempt : Value}
    {fTrial___init : Addr} {odTrial___init anTrial___init : Option Addr} {slTrial___init : Array (Option Value)} {ocTrial___init kVTrial___init dcTrial___init pmTrial___init cdTrial___init ctTrial___init : Value}
    {fTrial___enter : Addr} {odTrial___enter anTrial___enter : Option Addr} {slTrial___enter : Array (Option Value)} {ocTrial___enter kVTrial___enter dcTrial___enter pmTrial___enter cdTrial___enter ctTrial___enter : Value}
    {fTrial___exit : Addr} {odTrial___exit anTrial___exit : Option Addr} {slTrial___exit : Array (Option Value)} {ocTrial___exit kVTrial___exit dcTrial___exit pmTrial___exit cdTrial___exit ctTrial___exit : Value}
    {flaw : Addr} {odlaw anlaw : Option Addr} {sllaw : Array (Option Value)} {oclaw kVlaw dclaw pmlaw cdlaw ctlaw : Value}
    {CPlain : Addr}
    {CStore : Addr}
    {CTrial : Addr}
    {tkSMALL : Tok}
    {tc tP : Addr}
    (ais_whole : PySem.W.nsIn K mainGlobals "is_whole" = some (some (.ref fis_whole)))
    (lis_whole : K.lookup fis_whole = some ⟨ocis_whole, odis_whole, .func (PySem.W.fnOf "is_whole" "is_whole" (defArgs s_is_whole) (defBody s_is_whole) (defScope s_is_whole) .none kVis_whole dcis_whole pmis_whole anis_whole cdis_whole ctis_whole), slis_whole⟩)
    (cis_whole : PySem.W.codeIn K cdis_whole "is_whole" = true) (kis_whole : PySem.W.keepIn K (.ref fis_whole) = true)
    (ais_count : PySem.W.nsIn K mainGlobals "is_count" = some (some (.ref fis_count)))
    (lis_count : K.lookup fis_count = some ⟨ocis_count, odis_count, .func (PySem.W.fnOf "is_count" "is_count" (defArgs s_is_count) (defBody s_is_count) (defScope s_is_count) .none kVis_count dcis_count pmis_count anis_count cdis_count ctis_count), slis_count⟩)
    (cis_count : PySem.W.codeIn K cdis_count "is_count" = true) (kis_count : PySem.W.keepIn K (.ref fis_count) = true)
    (ais_letter : PySem.W.nsIn K mainGlobals "is_letter" = some (some (.ref fis_letter)))
    (lis_letter : K.lookup fis_letter = some ⟨ocis_letter, odis_letter, .func (PySem.W.fnOf "is_letter" "is_letter" (defArgs s_is_letter) (defBody s_is_letter) (defScope s_is_letter) .none kVis_letter dcis_letter pmis_letter anis_letter cdis_letter ctis_letter), slis_letter⟩)
    (cis_letter : PySem.W.codeIn K cdis_letter "is_letter" = true) (kis_letter : PySem.W.keepIn K (.ref fis_letter) = true)
    (aare_values : PySem.W.nsIn K mainGlobals "are_values" = some (some (.ref fare_values)))
    (lare_values : K.lookup fare_values = some ⟨ocare_values, odare_values, .func (PySem.W.fnOf "are_values" "are_values" (defArgs s_are_values) (defBody s_are_values) (defScope s_are_values) .none kVare_values dcare_values pmare_values anare_values cdare_values ctare_values), slare_values⟩)
    (care_values : PySem.W.codeIn K cdare_values "are_values" = true) (kare_values : PySem.W.keepIn K (.ref fare_values) = true)
    (acheck_sizes : PySem.W.nsIn K mainGlobals "check_sizes" = some (some (.ref fcheck_sizes)))
    (lcheck_sizes : K.lookup fcheck_sizes = some ⟨occheck_sizes, odcheck_sizes, .func (PySem.W.fnOf "check_sizes" "check_sizes" (defArgs s_check_sizes) (defBody s_check_sizes) (defScope s_check_sizes) .none kVcheck_sizes dccheck_sizes pmcheck_sizes ancheck_sizes cdcheck_sizes ctcheck_sizes), slcheck_sizes⟩)
    (ccheck_sizes : PySem.W.codeIn K cdcheck_sizes "check_sizes" = true) (kcheck_sizes : PySem.W.keepIn K (.ref fcheck_sizes) = true)
    (aare_letters : PySem.W.nsIn K mainGlobals "are_letters" = some (some (.ref fare_letters)))
    (lare_letters : K.lookup fare_letters = some ⟨ocare_letters, odare_letters, .func (PySem.W.fnOf "are_letters" "are_letters" (defArgs s_are_letters) (defBody s_are_letters) (defScope s_are_letters) .none kVare_letters dcare_letters pmare_letters anare_letters cdare_letters ctare_letters), slare_letters⟩)
    (care_letters : PySem.W.codeIn K cdare_letters "are_letters" = true) (kare_letters : PySem.W.keepIn K (.ref fare_letters) = true)
    (aare_named : PySem.W.nsIn K mainGlobals "are_named" = some (some (.ref fare_named)))
    (lare_named : K.lookup fare_named = some ⟨ocare_named, odare_named, .func (PySem.W.fnOf "are_named" "are_named" (defArgs s_are_named) (defBody s_are_named) (defScope s_are_named) .none kVare_named dcare_named pmare_named anare_named cdare_named ctare_named), slare_named⟩)
    (care_named : PySem.W.codeIn K cdare_named "are_named" = true) (kare_named : PySem.W.keepIn K (.ref fare_named) = true)
    (aare_sides : PySem.W.nsIn K mainGlobals "are_sides" = some (some (.ref fare_sides)))
    (lare_sides : K.lookup fare_sides = some ⟨ocare_sides, odare_sides, .func (PySem.W.fnOf "are_sides" "are_sides" (defArgs s_are_sides) (defBody s_are_sides) (defScope s_are_sides) .none kVare_sides dcare_sides pmare_sides anare_sides cdare_sides ctare_sides), slare_sides⟩)
    (care_sides : PySem.W.codeIn K cdare_sides "are_sides" = true) (kare_sides : PySem.W.keepIn K (.ref fare_sides) = true)
    (avalued : PySem.W.nsIn K mainGlobals "valued" = some (some (.ref fvalued)))
    (lvalued : K.lookup fvalued = some ⟨ocvalued, odvalued, .func (PySem.W.fnOf "valued" "valued" (defArgs s_valued) (defBody s_valued) (defScope s_valued) .none kVvalued dcvalued pmvalued anvalued cdvalued ctvalued), slvalued⟩)
    (cvalued : PySem.W.codeIn K cdvalued "valued" = true) (kvalued : PySem.W.keepIn K (.ref fvalued) = true)
    (arest_of : PySem.W.nsIn K mainGlobals "rest_of" = some (some (.ref frest_of)))
    (lrest_of : K.lookup frest_of = some ⟨ocrest_of, odrest_of, .func (PySem.W.fnOf "rest_of" "rest_of" (defArgs s_rest_of) (defBody s_rest_of) (defScope s_rest_of) .none kVrest_of dcrest_of pmrest_of anrest_of cdrest_of ctrest_of), slrest_of⟩)
    (crest_of : PySem.W.codeIn K cdrest_of "rest_of" = true) (krest_of : PySem.W.keepIn K (.ref frest_of) = true)
    (aPlain___init : PySem.W.findIn K (.ref CPlain) "__init__" = some (some (.ref fPlain___init)))
    (lPlain___init : K.lookup fPlain___init = some ⟨ocPlain___init, odPlain___init, .func (PySem.W.fnOf "__init__" "Plain.__init__" (defArgs s_Plain___init) (defBody s_Plain___init) (defScope s_Plain___init) .none kVPlain___init dcPlain___init pmPlain___init anPlain___init cdPlain___init ctPlain___init), slPlain___init⟩)
    (cPlain___init : PySem.W.codeIn K cdPlain___init "Plain.__init__" = true) (kPlain___init : PySem.W.keepIn K (.ref fPlain___init) = true)
    (aPlain_sizes : PySem.W.findIn K (.ref CPlain) "sizes" = some (some (.ref fPlain_sizes)))
    (lPlain_sizes : K.lookup fPlain_sizes = some ⟨ocPlain_sizes, odPlain_sizes, .func (PySem.W.fnOf "sizes" "Plain.sizes" (defArgs s_Plain_sizes) (defBody s_Plain_sizes) (defScope s_Plain_sizes) .none kVPlain_sizes dcPlain_sizes pmPlain_sizes anPlain_sizes cdPlain_sizes ctPlain_sizes), slPlain_sizes⟩)
    (cPlain_sizes : PySem.W.codeIn K cdPlain_sizes "Plain.sizes" = true) (kPlain_sizes : PySem.W.keepIn K (.ref fPlain_sizes) = true)
    (aPlain___eq : PySem.W.findIn K (.ref CPlain) "__eq__" = some (some (.ref fPlain___eq)))
    (lPlain___eq : K.lookup fPlain___eq = some ⟨ocPlain___eq, odPlain___eq, .func (PySem.W.fnOf "__eq__" "Plain.__eq__" (defArgs s_Plain___eq) (defBody s_Plain___eq) (defScope s_Plain___eq) .none kVPlain___eq dcPlain___eq pmPlain___eq anPlain___eq cdPlain___eq ctPlain___eq), slPlain___eq⟩)
    (cPlain___eq : PySem.W.codeIn K cdPlain___eq "Plain.__eq__" = true) (kPlain___eq : PySem.W.keepIn K (.ref fPlain___eq) = true)
    (acheck_table : PySem.W.nsIn K mainGlobals "check_table" = some (some (.ref fcheck_table)))
    (lcheck_table : K.lookup fcheck_table = some ⟨occheck_table, odcheck_table, .func (PySem.W.fnOf "check_table" "check_table" (defArgs s_check_table) (defBody s_check_table) (defScope s_check_table) .none kVcheck_table dccheck_table pmcheck_table ancheck_table cdcheck_table ctcheck_table), slcheck_table⟩)
    (ccheck_table : PySem.W.codeIn K cdcheck_table "check_table" = true) (kcheck_table : PySem.W.keepIn K (.ref fcheck_table) = true)
    (ais_ahead : PySem.W.nsIn K mainGlobals "is_ahead" = some (some (.ref fis_ahead)))
    (lis_ahead : K.lookup fis_ahead = some ⟨ocis_ahead, odis_ahead, .func (PySem.W.fnOf "is_ahead" "is_ahead" (defArgs s_is_ahead) (defBody s_is_ahead) (defScope s_is_ahead) .none kVis_ahead dcis_ahead pmis_ahead anis_ahead cdis_ahead ctis_ahead), slis_ahead⟩)
    (cis_ahead : PySem.W.codeIn K cdis_ahead "is_ahead" = true) (kis_ahead : PySem.W.keepIn K (.ref fis_ahead) = true)
    (aordered : PySem.W.nsIn K mainGlobals "ordered" = some (some (.ref fordered)))
    (lordered : K.lookup fordered = some ⟨ocordered, odordered, .func (PySem.W.fnOf "ordered" "ordered" (defArgs s_ordered) (defBody s_ordered) (defScope s_ordered) .none kVordered dcordered pmordered anordered cdordered ctordered), slordered⟩)
    (cordered : PySem.W.codeIn K cdordered "ordered" = true) (kordered : PySem.W.keepIn K (.ref fordered) = true)
    (acheck_own : PySem.W.nsIn K mainGlobals "check_own" = some (some (.ref fcheck_own)))
    (lcheck_own : K.lookup fcheck_own = some ⟨occheck_own, odcheck_own, .func (PySem.W.fnOf "check_own" "check_own" (defArgs s_check_own) (defBody s_check_own) (defScope s_check_own) .none kVcheck_own dccheck_own pmcheck_own ancheck_own cdcheck_own ctcheck_own), slcheck_own⟩)
    (ccheck_own : PySem.W.codeIn K cdcheck_own "check_own" = true) (kcheck_own : PySem.W.keepIn K (.ref fcheck_own) = true)
    (aStore___init : PySem.W.findIn K (.ref CStore) "__init__" = some (some (.ref fStore___init)))
    (lStore___init : K.lookup fStore___init = some ⟨ocStore___init, odStore___init, .func (PySem.W.fnOf "__init__" "Store.__init__" (defArgs s_Store___init) (defBody s_Store___init) (defScope s_Store___init) .none kVStore___init dcStore___init pmStore___init anStore___init cdStore___init ctStore___init), slStore___init⟩)
    (cStore___init : PySem.W.codeIn K cdStore___init "Store.__init__" = true) (kStore___init : PySem.W.keepIn K (.ref fStore___init) = true)
    {qStore_room : Addr} {restStore_room : List Value} (aStore_room : PySem.W.findIn K (.ref CStore) "room" = some (some (.ref qStore_room)))
    (prStore_room : PySem.W.recIn K qStore_room "property" = some (.ref fStore_room :: restStore_room))
    (pgStore_room : PySem.W.specialIn K (.ref qStore_room) "__get__" = some (some (.builtin "property.__get__")))
    (ptStore_room : PySem.W.takesIn K (.ref qStore_room) = some true)
    (lStore_room : K.lookup fStore_room = some ⟨ocStore_room, odStore_room, .func (PySem.W.fnOf "room" "Store.room" (defArgs s_Store_room) (defBody s_Store_room) (defScope s_Store_room) .none kVStore_room dcStore_room pmStore_room anStore_room cdStore_room ctStore_room), slStore_room⟩)
    (cStore_room : PySem.W.codeIn K cdStore_room "Store.room" = true) (kStore_room : PySem.W.keepIn K (.ref fStore_room) = true)
    (aStore_limit : PySem.W.findIn K (.ref CStore) "limit" = some (some (.ref fStore_limit)))
    (lStore_limit : K.lookup fStore_limit = some ⟨ocStore_limit, odStore_limit, .func (PySem.W.fnOf "limit" "Store.limit" (defArgs s_Store_limit) (defBody s_Store_limit) (defScope s_Store_limit) .none kVStore_limit dcStore_limit pmStore_limit anStore_limit cdStore_limit ctStore_limit), slStore_limit⟩)
    (cStore_limit : PySem.W.codeIn K cdStore_limit "Store.limit" = true) (kStore_limit : PySem.W.keepIn K (.ref fStore_limit) = true)
    (aStore_spot_of : PySem.W.findIn K (.ref CStore) "spot_of" = some (some (.ref fStore_spot_of)))
    (lStore_spot_of : K.lookup fStore_spot_of = some ⟨ocStore_spot_of, odStore_spot_of, .func (PySem.W.fnOf "spot_of" "Store.spot_of" (defArgs s_Store_spot_of) (defBody s_Store_spot_of) (defScope s_Store_spot_of) .none kVStore_spot_of dcStore_spot_of pmStore_spot_of anStore_spot_of cdStore_spot_of ctStore_spot_of), slStore_spot_of⟩)
    (cStore_spot_of : PySem.W.codeIn K cdStore_spot_of "Store.spot_of" = true) (kStore_spot_of : PySem.W.keepIn K (.ref fStore_spot_of) = true)
    (aStore_check_cell : PySem.W.findIn K (.ref CStore) "check_cell" = some (some (.ref fStore_check_cell)))
    (lStore_check_cell : K.lookup fStore_check_cell = some ⟨ocStore_check_cell, odStore_check_cell, .func (PySem.W.fnOf "check_cell" "Store.check_cell" (defArgs s_Store_check_cell) (defBody s_Store_check_cell) (defScope s_Store_check_cell) .none kVStore_check_cell dcStore_check_cell pmStore_check_cell anStore_check_cell cdStore_check_cell ctStore_check_cell), slStore_check_cell⟩)
    (cStore_check_cell : PySem.W.codeIn K cdStore_check_cell "Store.check_cell" = true) (kStore_check_cell : PySem.W.keepIn K (.ref fStore_check_cell) = true)
    (aStore_check_room : PySem.W.findIn K (.ref CStore) "check_room" = some (some (.ref fStore_check_room)))
    (lStore_check_room : K.lookup fStore_check_room = some ⟨ocStore_check_room, odStore_check_room, .func (PySem.W.fnOf "check_room" "Store.check_room" (defArgs s_Store_check_room) (defBody s_Store_check_room) (defScope s_Store_check_room) .none kVStore_check_room dcStore_check_room pmStore_check_room anStore_check_room cdStore_check_room ctStore_check_room), slStore_check_room⟩)
    (cStore_check_room : PySem.W.codeIn K cdStore_check_room "Store.check_room" = true) (kStore_check_room : PySem.W.keepIn K (.ref fStore_check_room) = true)
    (aStore_change : PySem.W.findIn K (.ref CStore) "change" = some (some (.ref fStore_change)))
    (lStore_change : K.lookup fStore_change = some ⟨ocStore_change, odStore_change, .func (PySem.W.fnOf "change" "Store.change" (defArgs s_Store_change) (defBody s_Store_change) (defScope s_Store_change) .none kVStore_change dcStore_change pmStore_change anStore_change cdStore_change ctStore_change), slStore_change⟩)
    (cStore_change : PySem.W.codeIn K cdStore_change "Store.change" = true) (kStore_change : PySem.W.keepIn K (.ref fStore_change) = true)
    (aStore_lay : PySem.W.findIn K (.ref CStore) "lay" = some (some (.ref fStore_lay)))
    (lStore_lay : K.lookup fStore_lay = some ⟨ocStore_lay, odStore_lay, .func (PySem.W.fnOf "lay" "Store.lay" (defArgs s_Store_lay) (defBody s_Store_lay) (defScope s_Store_lay) .none kVStore_lay dcStore_lay pmStore_lay anStore_lay cdStore_lay ctStore_lay), slStore_lay⟩)
    (cStore_lay : PySem.W.codeIn K cdStore_lay "Store.lay" = true) (kStore_lay : PySem.W.keepIn K (.ref fStore_lay) = true)
    (aStore_look : PySem.W.findIn K (.ref CStore) "look" = some (some (.ref fStore_look)))
    (lStore_look : K.lookup fStore_look = some ⟨ocStore_look, odStore_look, .func (PySem.W.fnOf "look" "Store.look" (defArgs s_Store_look) (defBody s_Store_look) (defScope s_Store_look) .none kVStore_look dcStore_look pmStore_look anStore_look cdStore_look ctStore_look), slStore_look⟩)
    (cStore_look : PySem.W.codeIn K cdStore_look "Store.look" = true) (kStore_look : PySem.W.keepIn K (.ref fStore_look) = true)
    (aStore_take : PySem.W.findIn K (.ref CStore) "take" = some (some (.ref fStore_take)))
    (lStore_take : K.lookup fStore_take = some ⟨ocStore_take, odStore_take, .func (PySem.W.fnOf "take" "Store.take" (defArgs s_Store_take) (defBody s_Store_take) (defScope s_Store_take) .none kVStore_take dcStore_take pmStore_take anStore_take cdStore_take ctStore_take), slStore_take⟩)
    (cStore_take : PySem.W.codeIn K cdStore_take "Store.take" = true) (kStore_take : PySem.W.keepIn K (.ref fStore_take) = true)
    (aStore___len : PySem.W.findIn K (.ref CStore) "__len__" = some (some (.ref fStore___len)))
    (lStore___len : K.lookup fStore___len = some ⟨ocStore___len, odStore___len, .func (PySem.W.fnOf "__len__" "Store.__len__" (defArgs s_Store___len) (defBody s_Store___len) (defScope s_Store___len) .none kVStore___len dcStore___len pmStore___len anStore___len cdStore___len ctStore___len), slStore___len⟩)
    (cStore___len : PySem.W.codeIn K cdStore___len "Store.__len__" = true) (kStore___len : PySem.W.keepIn K (.ref fStore___len) = true)
    (aStore_held : PySem.W.findIn K (.ref CStore) "held" = some (some (.ref fStore_held)))
    (lStore_held : K.lookup fStore_held = some ⟨ocStore_held, odStore_held, .func (PySem.W.fnOf "held" "Store.held" (defArgs s_Store_held) (defBody s_Store_held) (defScope s_Store_held) .none kVStore_held dcStore_held pmStore_held anStore_held cdStore_held ctStore_held), slStore_held⟩)
    (cStore_held : PySem.W.codeIn K cdStore_held "Store.held" = true) (kStore_held : PySem.W.keepIn K (.ref fStore_held) = true)
    (aStore_grow : PySem.W.findIn K (.ref CStore) "grow" = some (some (.ref fStore_grow)))
    (lStore_grow : K.lookup fStore_grow = some ⟨ocStore_grow, odStore_grow, .func (PySem.W.fnOf "grow" "Store.grow" (defArgs s_Store_grow) (defBody s_Store_grow) (defScope s_Store_grow) .none kVStore_grow dcStore_grow pmStore_grow anStore_grow cdStore_grow ctStore_grow), slStore_grow⟩)
    (cStore_grow : PySem.W.codeIn K cdStore_grow "Store.grow" = true) (kStore_grow : PySem.W.keepIn K (.ref fStore_grow) = true)
    (aStore_trial : PySem.W.findIn K (.ref CStore) "trial" = some (some (.ref fStore_trial)))
    (lStore_trial : K.lookup fStore_trial = some ⟨ocStore_trial, odStore_trial, .func (PySem.W.fnOf "trial" "Store.trial" (defArgs s_Store_trial) (defBody s_Store_trial) (defScope s_Store_trial) .none kVStore_trial dcStore_trial pmStore_trial anStore_trial cdStore_trial ctStore_trial), slStore_trial⟩)
    (cStore_trial : PySem.W.codeIn K cdStore_trial "Store.trial" = true) (kStore_trial : PySem.W.keepIn K (.ref fStore_trial) = true)
    (aStore_attempt : PySem.W.findIn K (.ref CStore) "attempt" = some (some (.ref fStore_attempt)))
    (lStore_attempt : K.lookup fStore_attempt = some ⟨ocStore_attempt, odStore_attempt, .func (PySem.W.fnOf "attempt" "Store.attempt" (defArgs s_Store_attempt) (defBody s_Store_attempt) (defScope s_Store_attempt) .none kVStore_attempt dcStore_attempt pmStore_attempt anStore_attempt cdStore_attempt ctStore_attempt), slStore_attempt⟩)
    (cStore_attempt : PySem.W.codeIn K cdStore_attempt "Store.attempt" = true) (kStore_attempt : PySem.W.keepIn K (.ref fStore_attempt) = true)
    (aTrial___init : PySem.W.findIn K (.ref CTrial) "__init__" = some (some (.ref fTrial___init)))
    (lTrial___init : K.lookup fTrial___init = some ⟨ocTrial___init, odTrial___init, .func (PySem.W.fnOf "__init__" "Trial.__init__" (defArgs s_Trial___init) (defBody s_Trial___init) (defScope s_Trial___init) .none kVTrial___init dcTrial___init pmTrial___init anTrial___init cdTrial___init ctTrial___init), slTrial___init⟩)
    (cTrial___init : PySem.W.codeIn K cdTrial___init "Trial.__init__" = true) (kTrial___init : PySem.W.keepIn K (.ref fTrial___init) = true)
    (aTrial___enter : PySem.W.findIn K (.ref CTrial) "__enter__" = some (some (.ref fTrial___enter)))
    (lTrial___enter : K.lookup fTrial___enter = some ⟨ocTrial___enter, odTrial___enter, .func (PySem.W.fnOf "__enter__" "Trial.__enter__" (defArgs s_Trial___enter) (defBody s_Trial___enter) (defScope s_Trial___enter) .none kVTrial___enter dcTrial___enter pmTrial___enter anTrial___enter cdTrial___enter ctTrial___enter), slTrial___enter⟩)
    (cTrial___enter : PySem.W.codeIn K cdTrial___enter "Trial.__enter__" = true) (kTrial___enter : PySem.W.keepIn K (.ref fTrial___enter) = true)
    (aTrial___exit : PySem.W.findIn K (.ref CTrial) "__exit__" = some (some (.ref fTrial___exit)))
    (lTrial___exit : K.lookup fTrial___exit = some ⟨ocTrial___exit, odTrial___exit, .func (PySem.W.fnOf "__exit__" "Trial.__exit__" (defArgs s_Trial___exit) (defBody s_Trial___exit) (defScope s_Trial___exit) .none kVTrial___exit dcTrial___exit pmTrial___exit anTrial___exit cdTrial___exit ctTrial___exit), slTrial___exit⟩)
    (cTrial___exit : PySem.W.codeIn K cdTrial___exit "Trial.__exit__" = true) (kTrial___exit : PySem.W.keepIn K (.ref fTrial___exit) = true)
    (alaw : PySem.W.nsIn K mainGlobals "law" = some (some (.ref flaw)))
    (llaw : K.lookup flaw = some ⟨oclaw, odlaw, .func (PySem.W.fnOf "law" "law" (defArgs s_law) (defBody s_law) (defScope s_law) .none kVlaw dclaw pmlaw anlaw cdlaw ctlaw), sllaw⟩)
    (claw : PySem.W.codeIn K cdlaw "law" = true) (klaw : PySem.W.keepIn K (.ref flaw) = true)
    (aCPlain : PySem.W.nsIn K mainGlobals "Plain" = some (some (.ref CPlain)))
    (pgPlain : PySem.W.plainGet K CPlain Str.empty = true)
    (hdPlain : PySem.W.hasDictIn K CPlain = true)
    (poPlain : PySem.W.plainOver K CPlain = true)
    (saPlain : PySem.W.findIn K (.ref CPlain) "__setattr__" = some (some (.builtin "object.__setattr__")))
    (caPlain : PySem.W.findIn K (.ref CPlain) "__class__" = some (some (.builtin "object.__class__")))
    (cbPlain : PySem.W.specialIn K (.builtin "object.__class__") "__get__" = some (some (.builtin "getset_descriptor.__get__")))
    (ccPlain : PySem.W.takesIn K (.builtin "object.__class__") = some true)
    (cdPlain : PySem.W.mroIn K CPlain (.type "object") = some true)
    (noPlainrow : PySem.W.findIn K (.ref CPlain) "row" = some none)
    (iPlain___init : PySem.W.isFn K (.ref fPlain___init) = true)
    (mkPlain : PySem.W.makesIn K CPlain = true)
    (kcPlain : PySem.W.keepIn K (.ref CPlain) = true)
    (iPlain_sizes : PySem.W.isFn K (.ref fPlain_sizes) = true)
    (iPlain___eq : PySem.W.isFn K (.ref fPlain___eq) = true)
    (nePlain : PySem.W.findIn K (.ref CPlain) "__ne__" = some (some (.builtin "object.__ne__")))
    (obPlain : PySem.W.subIn K (.ref CPlain) (.type "object") = some true)
    (aCStore : PySem.W.nsIn K mainGlobals "Store" = some (some (.ref CStore)))
    (pgStore : PySem.W.plainGet K CStore Str.empty = true)
    (hdStore : PySem.W.hasDictIn K CStore = true)
    (poStore : PySem.W.plainOver K CStore = true)
    (saStore : PySem.W.findIn K (.ref CStore) "__setattr__" = some (some (.builtin "object.__setattr__")))
    (caStore : PySem.W.findIn K (.ref CStore) "__class__" = some (some (.builtin "object.__class__")))
    (cbStore : PySem.W.specialIn K (.builtin "object.__class__") "__get__" = some (some (.builtin "getset_descriptor.__get__")))
    (ccStore : PySem.W.takesIn K (.builtin "object.__class__") = some true)
    (cdStore : PySem.W.mroIn K CStore (.type "object") = some true)
    (noStoretable : PySem.W.findIn K (.ref CStore) "table" = some none)
    (noStorestate : PySem.W.findIn K (.ref CStore) "state" = some none)
    (noStoremost : PySem.W.findIn K (.ref CStore) "most" = some none)
    (noStorepast : PySem.W.findIn K (.ref CStore) "past" = some none)
    (iStore___init : PySem.W.isFn K (.ref fStore___init) = true)
    (mkStore : PySem.W.makesIn K CStore = true)
    (kcStore : PySem.W.keepIn K (.ref CStore) = true)
    (iStore_limit : PySem.W.isFn K (.ref fStore_limit) = true)
    (iStore_spot_of : PySem.W.isFn K (.ref fStore_spot_of) = true)
    (iStore_check_cell : PySem.W.isFn K (.ref fStore_check_cell) = true)
    (iStore_check_room : PySem.W.isFn K (.ref fStore_check_room) = true)
    (iStore_change : PySem.W.isFn K (.ref fStore_change) = true)
    (iStore_lay : PySem.W.isFn K (.ref fStore_lay) = true)
    (iStore_look : PySem.W.isFn K (.ref fStore_look) = true)
    (iStore_take : PySem.W.isFn K (.ref fStore_take) = true)
    (iStore___len : PySem.W.isFn K (.ref fStore___len) = true)
    (iStore_held : PySem.W.isFn K (.ref fStore_held) = true)
    (iStore_grow : PySem.W.isFn K (.ref fStore_grow) = true)
    (iStore_trial : PySem.W.isFn K (.ref fStore_trial) = true)
    (iStore_attempt : PySem.W.isFn K (.ref fStore_attempt) = true)
    (aCTrial : PySem.W.nsIn K mainGlobals "Trial" = some (some (.ref CTrial)))
    (pgTrial : PySem.W.plainGet K CTrial Str.empty = true)
    (hdTrial : PySem.W.hasDictIn K CTrial = true)
    (poTrial : PySem.W.plainOver K CTrial = true)
    (saTrial : PySem.W.findIn K (.ref CTrial) "__setattr__" = some (some (.builtin "object.__setattr__")))
    (caTrial : PySem.W.findIn K (.ref CTrial) "__class__" = some (some (.builtin "object.__class__")))
    (cbTrial : PySem.W.specialIn K (.builtin "object.__class__") "__get__" = some (some (.builtin "getset_descriptor.__get__")))
    (ccTrial : PySem.W.takesIn K (.builtin "object.__class__") = some true)
    (cdTrial : PySem.W.mroIn K CTrial (.type "object") = some true)
    (noTrialstore : PySem.W.findIn K (.ref CTrial) "store" = some none)
    (noTrialstate : PySem.W.findIn K (.ref CTrial) "state" = some none)
    (noTrialmost : PySem.W.findIn K (.ref CTrial) "most" = some none)
    (noTrialpast : PySem.W.findIn K (.ref CTrial) "past" = some none)
    (iTrial___init : PySem.W.isFn K (.ref fTrial___init) = true)
    (mkTrial : PySem.W.makesIn K CTrial = true)
    (kcTrial : PySem.W.keepIn K (.ref CTrial) = true)
    (iTrial___enter : PySem.W.isFn K (.ref fTrial___enter) = true)
    (iTrial___exit : PySem.W.isFn K (.ref fTrial___exit) = true)
    (nbool : PySem.W.nsIn K mainGlobals "bool" = some none)
    (ndict : PySem.W.nsIn K mainGlobals "dict" = some none)
    (nint : PySem.W.nsIn K mainGlobals "int" = some none)
    (nisinstance : PySem.W.nsIn K mainGlobals "isinstance" = some none)
    (nlen : PySem.W.nsIn K mainGlobals "len" = some none)
    (nlist : PySem.W.nsIn K mainGlobals "list" = some none)
    (nmax : PySem.W.nsIn K mainGlobals "max" = some none)
    (nrange : PySem.W.nsIn K mainGlobals "range" = some none)
    (nset : PySem.W.nsIn K mainGlobals "set" = some none)
    (nsorted : PySem.W.nsIn K mainGlobals "sorted" = some none)
    (nstr : PySem.W.nsIn K mainGlobals "str" = some none)
    (nsum : PySem.W.nsIn K mainGlobals "sum" = some none)
    (ntuple : PySem.W.nsIn K mainGlobals "tuple" = some none)
    (nzip : PySem.W.nsIn K mainGlobals "zip" = some none)
    (aKSMALL : PySem.W.nsIn K mainGlobals "SMALL" = some (some (.str "abcdefghijklmnopqrstuvwxyz" tkSMALL)))
    (hTab : PySem.W.tabIn K "law" = some (tc, tP)) (nTab : K.lookup tP = none)
    : ∃ (tc tP : Addr) (fd : FuncData), PySem.W.tabIn K "law" = some (tc, tP) ∧ (K).lookup tP = none ∧ (∀ (s : Shared) (v : Value), BindsTo s fd ⟨[v], []⟩ [("_law_script", v)]) ∧ ∀ base : Heap, (K).In base → base.Ns mainGlobals mg → LamX.TabB base mg tc tP → FnOk l.prog w (K) mg base CX0 21 fa fd ["_law_script"] (sp_top (K) tP) := by
  have e := hfa.symm.trans (PySem.W.mg_of X G alaw)
  cases e
  let T : Txt K mg := {
    a_is_whole := fis_whole, fd_is_whole := _,
    F_is_whole := fun_mk (st := s_is_whole) lis_whole cis_whole kis_whole,
    m_is_whole := PySem.W.mg_of X G ais_whole,
    a_is_count := fis_count, fd_is_count := _,
    F_is_count := fun_mk (st := s_is_count) lis_count cis_count kis_count,
    m_is_count := PySem.W.mg_of X G ais_count,
    a_is_letter := fis_letter, fd_is_letter := _,
    F_is_letter := fun_mk (st := s_is_letter) lis_letter cis_letter kis_letter,
    m_is_letter := PySem.W.mg_of X G ais_letter,
    a_are_values := fare_values, fd_are_values := _,
    F_are_values := fun_mk (st := s_are_values) lare_values care_values kare_values,
    m_are_values := PySem.W.mg_of X G aare_values,
    a_check_sizes := fcheck_sizes, fd_check_sizes := _,
    F_check_sizes := fun_mk (st := s_check_sizes) lcheck_sizes ccheck_sizes kcheck_sizes,
    m_check_sizes := PySem.W.mg_of X G acheck_sizes,
    a_are_letters := fare_letters, fd_are_letters := _,
    F_are_letters := fun_mk (st := s_are_letters) lare_letters care_letters kare_letters,
    m_are_letters := PySem.W.mg_of X G aare_letters,
    a_are_named := fare_named, fd_are_named := _,
    F_are_named := fun_mk (st := s_are_named) lare_named care_named kare_named,
    m_are_named := PySem.W.mg_of X G aare_named,
    a_are_sides := fare_sides, fd_are_sides := _,
    F_are_sides := fun_mk (st := s_are_sides) lare_sides care_sides kare_sides,
    m_are_sides := PySem.W.mg_of X G aare_sides,
    a_valued := fvalued, fd_valued := _,
    F_valued := fun_mk (st := s_valued) lvalued cvalued kvalued,
    m_valued := PySem.W.mg_of X G avalued,
    a_rest_of := frest_of, fd_rest_of := _,
    F_rest_of := fun_mk (st := s_rest_of) lrest_of crest_of krest_of,
    m_rest_of := PySem.W.mg_of X G arest_of,
    a_Plain___init := fPlain___init, fd_Plain___init := _,
    F_Plain___init := fun_mk (st := s_Plain___init) lPlain___init cPlain___init kPlain___init,
    a_Plain_sizes := fPlain_sizes, fd_Plain_sizes := _,
    F_Plain_sizes := fun_mk (st := s_Plain_sizes) lPlain_sizes cPlain_sizes kPlain_sizes,
    a_Plain___eq := fPlain___eq, fd_Plain___eq := _,
    F_Plain___eq := fun_mk (st := s_Plain___eq) lPlain___eq cPlain___eq kPlain___eq,
    a_check_table := fcheck_table, fd_check_table := _,
    F_check_table := fun_mk (st := s_check_table) lcheck_table ccheck_table kcheck_table,
    m_check_table := PySem.W.mg_of X G acheck_table,
    a_is_ahead := fis_ahead, fd_is_ahead := _,
    F_is_ahead := fun_mk (st := s_is_ahead) lis_ahead cis_ahead kis_ahead,
    m_is_ahead := PySem.W.mg_of X G ais_ahead,
    a_ordered := fordered, fd_ordered := _,
    F_ordered := fun_mk (st := s_ordered) lordered cordered kordered,
    m_ordered := PySem.W.mg_of X G aordered,
    a_check_own := fcheck_own, fd_check_own := _,
    F_check_own := fun_mk (st := s_check_own) lcheck_own ccheck_own kcheck_own,
    m_check_own := PySem.W.mg_of X G acheck_own,
    a_Store___init := fStore___init, fd_Store___init := _,
    F_Store___init := fun_mk (st := s_Store___init) lStore___init cStore___init kStore___init,
    q_Store_room := qStore_room, P_Store_room := ⟨aStore_room, pgStore_room, ptStore_room, restStore_room, prStore_room⟩,
    a_Store_room := fStore_room, fd_Store_room := _,
    F_Store_room := fun_mk (st := s_Store_room) lStore_room cStore_room kStore_room,
    a_Store_limit := fStore_limit, fd_Store_limit := _,
    F_Store_limit := fun_mk (st := s_Store_limit) lStore_limit cStore_limit kStore_limit,
    a_Store_spot_of := fStore_spot_of, fd_Store_spot_of := _,
    F_Store_spot_of := fun_mk (st := s_Store_spot_of) lStore_spot_of cStore_spot_of kStore_spot_of,
    a_Store_check_cell := fStore_check_cell, fd_Store_check_cell := _,
    F_Store_check_cell := fun_mk (st := s_Store_check_cell) lStore_check_cell cStore_check_cell kStore_check_cell,
    a_Store_check_room := fStore_check_room, fd_Store_check_room := _,
    F_Store_check_room := fun_mk (st := s_Store_check_room) lStore_check_room cStore_check_room kStore_check_room,
    a_Store_change := fStore_change, fd_Store_change := _,
    F_Store_change := fun_mk (st := s_Store_change) lStore_change cStore_change kStore_change,
    a_Store_lay := fStore_lay, fd_Store_lay := _,
    F_Store_lay := fun_mk (st := s_Store_lay) lStore_lay cStore_lay kStore_lay,
    a_Store_look := fStore_look, fd_Store_look := _,
    F_Store_look := fun_mk (st := s_Store_look) lStore_look cStore_look kStore_look,
    a_Store_take := fStore_take, fd_Store_take := _,
    F_Store_take := fun_mk (st := s_Store_take) lStore_take cStore_take kStore_take,
    a_Store___len := fStore___len, fd_Store___len := _,
    F_Store___len := fun_mk (st := s_Store___len) lStore___len cStore___len kStore___len,
    a_Store_held := fStore_held, fd_Store_held := _,
    F_Store_held := fun_mk (st := s_Store_held) lStore_held cStore_held kStore_held,
    a_Store_grow := fStore_grow, fd_Store_grow := _,
    F_Store_grow := fun_mk (st := s_Store_grow) lStore_grow cStore_grow kStore_grow,
    a_Store_trial := fStore_trial, fd_Store_trial := _,
    F_Store_trial := fun_mk (st := s_Store_trial) lStore_trial cStore_trial kStore_trial,
    a_Store_attempt := fStore_attempt, fd_Store_attempt := _,
    F_Store_attempt := fun_mk (st := s_Store_attempt) lStore_attempt cStore_attempt kStore_attempt,
    a_Trial___init := fTrial___init, fd_Trial___init := _,
    F_Trial___init := fun_mk (st := s_Trial___init) lTrial___init cTrial___init kTrial___init,
    a_Trial___enter := fTrial___enter, fd_Trial___enter := _,
    F_Trial___enter := fun_mk (st := s_Trial___enter) lTrial___enter cTrial___enter kTrial___enter,
    a_Trial___exit := fTrial___exit, fd_Trial___exit := _,
    F_Trial___exit := fun_mk (st := s_Trial___exit) lTrial___exit cTrial___exit kTrial___exit,
    a_law := fa, fd_law := _,
    F_law := fun_mk (st := s_law) llaw claw klaw,
    m_law := PySem.W.mg_of X G alaw,
    a_Plain := CPlain, m_Plain := PySem.W.mg_of X G aCPlain,
    c_Plain := ⟨pgPlain, hdPlain, poPlain, saPlain⟩,
    I_Plain := ⟨⟨pgPlain, hdPlain, poPlain, saPlain⟩, caPlain, cbPlain, ccPlain, cdPlain⟩,
    n_Plain_row := noPlainrow,
    k_Plain := ⟨mkPlain, aPlain___init, iPlain___init, kcPlain⟩,
    M_Plain_sizes := ⟨aPlain_sizes, iPlain_sizes, kPlain_sizes⟩,
    M_Plain___eq := ⟨aPlain___eq, iPlain___eq, kPlain___eq⟩,
    O_Plain := ⟨aPlain___eq, iPlain___eq, nePlain, obPlain⟩,
    a_Store := CStore, m_Store := PySem.W.mg_of X G aCStore,
    c_Store := ⟨pgStore, hdStore, poStore, saStore⟩,
    I_Store := ⟨⟨pgStore, hdStore, poStore, saStore⟩, caStore, cbStore, ccStore, cdStore⟩,
    n_Store_table := noStoretable,
    n_Store_state := noStorestate,
    n_Store_most := noStoremost,
    n_Store_past := noStorepast,
    k_Store := ⟨mkStore, aStore___init, iStore___init, kcStore⟩,
    M_Store_limit := ⟨aStore_limit, iStore_limit, kStore_limit⟩,
    M_Store_spot_of := ⟨aStore_spot_of, iStore_spot_of, kStore_spot_of⟩,
    M_Store_check_cell := ⟨aStore_check_cell, iStore_check_cell, kStore_check_cell⟩,
    M_Store_check_room := ⟨aStore_check_room, iStore_check_room, kStore_check_room⟩,
    M_Store_change := ⟨aStore_change, iStore_change, kStore_change⟩,
    M_Store_lay := ⟨aStore_lay, iStore_lay, kStore_lay⟩,
    M_Store_look := ⟨aStore_look, iStore_look, kStore_look⟩,
    M_Store_take := ⟨aStore_take, iStore_take, kStore_take⟩,
    M_Store___len := ⟨aStore___len, iStore___len, kStore___len⟩,
    M_Store_held := ⟨aStore_held, iStore_held, kStore_held⟩,
    M_Store_grow := ⟨aStore_grow, iStore_grow, kStore_grow⟩,
    M_Store_trial := ⟨aStore_trial, iStore_trial, kStore_trial⟩,
    M_Store_attempt := ⟨aStore_attempt, iStore_attempt, kStore_attempt⟩,
    a_Trial := CTrial, m_Trial := PySem.W.mg_of X G aCTrial,
    c_Trial := ⟨pgTrial, hdTrial, poTrial, saTrial⟩,
    I_Trial := ⟨⟨pgTrial, hdTrial, poTrial, saTrial⟩, caTrial, cbTrial, ccTrial, cdTrial⟩,
    n_Trial_store := noTrialstore,
    n_Trial_state := noTrialstate,
    n_Trial_most := noTrialmost,
    n_Trial_past := noTrialpast,
    k_Trial := ⟨mkTrial, aTrial___init, iTrial___init, kcTrial⟩,
    M_Trial___enter := ⟨aTrial___enter, iTrial___enter, kTrial___enter⟩,
    M_Trial___exit := ⟨aTrial___exit, iTrial___exit, kTrial___exit⟩,
    n_bool := PySem.W.mg_none_of X G nbool,
    n_dict := PySem.W.mg_none_of X G ndict,
    n_int := PySem.W.mg_none_of X G nint,
    n_isinstance := PySem.W.mg_none_of X G nisinstance,
    n_len := PySem.W.mg_none_of X G nlen,
    n_list := PySem.W.mg_none_of X G nlist,
    n_max := PySem.W.mg_none_of X G nmax,
    n_range := PySem.W.mg_none_of X G nrange,
    n_set := PySem.W.mg_none_of X G nset,
    n_sorted := PySem.W.mg_none_of X G nsorted,
    n_str := PySem.W.mg_none_of X G nstr,
    n_sum := PySem.W.mg_none_of X G nsum,
    n_tuple := PySem.W.mg_none_of X G ntuple,
    n_zip := PySem.W.mg_none_of X G nzip,
    u_SMALL := _, m_SMALL := ⟨PySem.W.mg_of X G aKSMALL, ⟨_, rfl⟩⟩,
    tc := tc, tP := tP, tcode := LamP.code_is alaw hTab }
  exact ⟨tc, tP, PySem.W.fnOf "law" "law" (defArgs s_law) (defBody s_law) (defScope s_law) .none kVlaw dclaw pmlaw anlaw cdlaw ctlaw, hTab, nTab, fun s v => .of_eq rfl, fun base _ _ TB => (ok_law T TB).imp fun vs H Q E z => sp_law_top T vs H Q E z⟩
theorem walk {l : PySem.W.OpenLaw} {q : Program} {loose : List Str} {XP : (Str → Option Value) → Heap → Prop} {YP : World → Heap → Prop} {d dL : DefRec} {K : Params → PySem.W.Frag} (hn : l.most = some 63) (hdf : d.params.defaults = []) (hrec : (PyProof.Rows.recsOf q).find? (fun e => e.name == ("law" : Str)) = some dL)
    (hY : ∀ (w : World) (h : Heap), YP w h → (K w.params).In h)
    (F : ∀ (w : World) (mg : Str → Option Value) (fa : Addr) (h : Heap), (K w.params).In h → h.Ns mainGlobals mg → mg d.name = some (.ref fa) → ∃ (tc tP : Addr) (fd : FuncData), PySem.W.tabIn (K w.params) "law" = some (tc, tP) ∧ ((K w.params)).lookup tP = none ∧ (∀ (s : Shared) (v : Value), BindsTo s fd ⟨[v], []⟩ [("_law_script", v)]) ∧ ∀ base : Heap, ((K w.params)).In base → base.Ns mainGlobals mg → LamX.TabB base mg tc tP → FnOk l.prog w ((K w.params)) mg base CX0 21 fa fd ["_law_script"] (sp_top ((K w.params)) tP)) :
    PySem.W.WalkO q loose XP YP l.row.toRowW d [] (fun f vs => PySem.call f vs) := by
  refine LamP.walk_lam (n := 63) (k := 21) (x := "_law_script") (CX := fun _ => CX0) hn (by decide) hdf ⟨rfl, by decide, by decide⟩ hrec hY (fun w mg fa h Y KX G hm ht => ?_) fun _ _ _ _ _ z => z
  obtain ⟨tc, tP, fd, h1, h2, h3, h4⟩ := F w mg fa h KX G hm
  obtain ⟨c1, c2⟩ := ht tc tP h1
  exact ⟨fd, [(tc, tP)], sp_top (K w.params) tP, fun p hp => by rw [List.mem_singleton.mp hp]; exact c2, fun p hp => by rw [List.mem_singleton.mp hp]; exact h2, fun p hp => by rw [List.mem_singleton.mp hp]; exact c1, h3, fun H a ns hl _ hH hS => ⟨a, ns, rfl, hS, hl, hH _ (List.mem_singleton.mpr rfl), fun _ => rfl⟩, fun base b1 b2 b3 => h4 base b1 b2 (b3 _ (List.mem_singleton.mpr rfl))⟩
end CP
open PySem PySem.W PyProof.Rows
set_option maxRecDepth 100000 in
set_option maxHeartbeats 0 in
theorem PySem.Challenge.cw_cellplaces_k87_stores_by_name_holds : PySem.Challenge.rw_cellplaces_k87_stores_by_name.Holds := by
  w_on; o_law; k_head; (case hw => w_witness2)
  k_fill
  refine CP.walk (l := PySem.Challenge.rw_cellplaces_k87_stores_by_name) rfl rfl (by first | rfl | kernel_rfl) (fun w h Y => PySem.W.km_in_of Y) ?F
  case F =>
    intro w mg fa h KX G hmg
    refine' CP.all_mk KX G hmg ?ais_whole ?lis_whole ?cis_whole ?kis_whole ?ais_count ?lis_count ?cis_count ?kis_count ?ais_letter ?lis_letter ?cis_letter ?kis_letter ?aare_values ?lare_values ?care_values ?kare_values ?acheck_sizes ?lcheck_sizes ?ccheck_sizes ?kcheck_sizes ?aare_letters ?lare_letters ?care_letters ?kare_letters ?aare_named ?lare_named ?care_named ?kare_named ?aare_sides ?lare_sides ?care_sides ?kare_sides ?avalued ?lvalued ?cvalued ?kvalued ?arest_of ?lrest_of ?crest_of ?krest_of ?aPlain___init ?lPlain___init ?cPlain___init ?kPlain___init ?aPlain_sizes ?lPlain_sizes ?cPlain_sizes ?kPlain_sizes ?aPlain___eq ?lPlain___eq ?cPlain___eq ?kPlain___eq ?acheck_table ?lcheck_table ?ccheck_table ?kcheck_table ?ais_ahead ?lis_ahead ?cis_ahead ?kis_ahead ?aordered ?lordered ?cordered ?kordered ?acheck_own ?lcheck_own ?ccheck_own ?kcheck_own ?aStore___init ?lStore___init ?cStore___init ?kStore___init ?aStore_room ?prStore_room ?pgStore_room ?ptStore_room ?lStore_room ?cStore_room ?kStore_room ?aStore_limit ?lStore_limit ?cStore_limit ?kStore_limit ?aStore_spot_of ?lStore_spot_of ?cStore_spot_of ?kStore_spot_of ?aStore_check_cell ?lStore_check_cell ?cStore_check_cell ?kStore_check_cell ?aStore_check_room ?lStore_check_room ?cStore_check_room ?kStore_check_room ?aStore_change ?lStore_change ?cStore_change ?kStore_change ?aStore_lay ?lStore_lay ?cStore_lay ?kStore_lay ?aStore_look ?lStore_look ?cStore_look ?kStore_look ?aStore_take ?lStore_take ?cStore_take ?kStore_take ?aStore___len ?lStore___len ?cStore___len ?kStore___len ?aStore_held ?lStore_held ?cStore_held ?kStore_held ?aStore_grow ?lStore_grow ?cStore_grow ?kStore_grow ?aStore_trial ?lStore_trial ?cStore_trial ?kStore_trial ?aStore_attempt ?lStore_attempt ?cStore_attempt ?kStore_attempt ?aTrial___init ?lTrial___init ?cTrial___init ?kTrial___init ?aTrial___enter ?lTrial___enter ?cTrial___enter ?kTrial___enter ?aTrial___exit ?lTrial___exit ?cTrial___exit ?kTrial___exit ?alaw ?llaw ?claw ?klaw ?aCPlain ?pgPlain ?hdPlain ?poPlain ?saPlain ?caPlain ?cbPlain ?ccPlain ?cdPlain ?noPlainrow ?iPlain___init ?mkPlain ?kcPlain ?iPlain_sizes ?iPlain___eq ?nePlain ?obPlain ?aCStore ?pgStore ?hdStore ?poStore ?saStore ?caStore ?cbStore ?ccStore ?cdStore ?noStoretable ?noStorestate ?noStoremost ?noStorepast ?iStore___init ?mkStore ?kcStore ?iStore_limit ?iStore_spot_of ?iStore_check_cell ?iStore_check_room ?iStore_change ?iStore_lay ?iStore_look ?iStore_take ?iStore___len ?iStore_held ?iStore_grow ?iStore_trial ?iStore_attempt ?aCTrial ?pgTrial ?hdTrial ?poTrial ?saTrial ?caTrial ?cbTrial ?ccTrial ?cdTrial ?noTrialstore ?noTrialstate ?noTrialmost ?noTrialpast ?iTrial___init ?mkTrial ?kcTrial ?iTrial___enter ?iTrial___exit ?nbool ?ndict ?nint ?nisinstance ?nlen ?nlist ?nmax ?nrange ?nset ?nsorted ?nstr ?nsum ?ntuple ?nzip ?aKSMALL ?hTab ?nTab
    (case aCPlain => k_is)
    (case aCStore => k_is)
    (case aCTrial => k_is)
    (case ais_whole => k_is)
    (case lis_whole => k_is)
    (case cis_whole => k_is)
    (case kis_whole => k_is)
    (case ais_count => k_is)
    (case lis_count => k_is)
    (case cis_count => k_is)
    (case kis_count => k_is)
    (case ais_letter => k_is)
    (case lis_letter => k_is)
    (case cis_letter => k_is)
    (case kis_letter => k_is)
    (case aare_values => k_is)
    (case lare_values => k_is)
    (case care_values => k_is)
    (case kare_values => k_is)
    (case acheck_sizes => k_is)
    (case lcheck_sizes => k_is)
    (case ccheck_sizes => k_is)
    (case kcheck_sizes => k_is)
    (case aare_letters => k_is)
    (case lare_letters => k_is)
    (case care_letters => k_is)
    (case kare_letters => k_is)
    (case aare_named => k_is)
    (case lare_named => k_is)
    (case care_named => k_is)
    (case kare_named => k_is)
    (case aare_sides => k_is)
    (case lare_sides => k_is)
    (case care_sides => k_is)
    (case kare_sides => k_is)
    (case avalued => k_is)
    (case lvalued => k_is)
    (case cvalued => k_is)
    (case kvalued => k_is)
    (case arest_of => k_is)
    (case lrest_of => k_is)
    (case crest_of => k_is)
    (case krest_of => k_is)
    (case aPlain___init => k_is)
    (case lPlain___init => k_is)
    (case cPlain___init => k_is)
    (case kPlain___init => k_is)
    (case aPlain_sizes => k_is)
    (case lPlain_sizes => k_is)
    (case cPlain_sizes => k_is)
    (case kPlain_sizes => k_is)
    (case aPlain___eq => k_is)
    (case lPlain___eq => k_is)
    (case cPlain___eq => k_is)
    (case kPlain___eq => k_is)
    (case acheck_table => k_is)
    (case lcheck_table => k_is)
    (case ccheck_table => k_is)
    (case kcheck_table => k_is)
    (case ais_ahead => k_is)
    (case lis_ahead => k_is)
    (case cis_ahead => k_is)
    (case kis_ahead => k_is)
    (case aordered => k_is)
    (case lordered => k_is)
    (case cordered => k_is)
    (case kordered => k_is)
    (case acheck_own => k_is)
    (case lcheck_own => k_is)
    (case ccheck_own => k_is)
    (case kcheck_own => k_is)
    (case aStore___init => k_is)
    (case lStore___init => k_is)
    (case cStore___init => k_is)
    (case kStore___init => k_is)
    (case aStore_room => k_is)
    (case prStore_room => k_is)
    (case pgStore_room => k_is)
    (case ptStore_room => k_is)
    (case lStore_room => k_is)
    (case cStore_room => k_is)
    (case kStore_room => k_is)
    (case aStore_limit => k_is)
    (case lStore_limit => k_is)
    (case cStore_limit => k_is)
    (case kStore_limit => k_is)
    (case aStore_spot_of => k_is)
    (case lStore_spot_of => k_is)
    (case cStore_spot_of => k_is)
    (case kStore_spot_of => k_is)
    (case aStore_check_cell => k_is)
    (case lStore_check_cell => k_is)
    (case cStore_check_cell => k_is)
    (case kStore_check_cell => k_is)
    (case aStore_check_room => k_is)
    (case lStore_check_room => k_is)
    (case cStore_check_room => k_is)
    (case kStore_check_room => k_is)
    (case aStore_change => k_is)
    (case lStore_change => k_is)
    (case cStore_change => k_is)
    (case kStore_change => k_is)
    (case aStore_lay => k_is)
    (case lStore_lay => k_is)
    (case cStore_lay => k_is)
    (case kStore_lay => k_is)
    (case aStore_look => k_is)
    (case lStore_look => k_is)
    (case cStore_look => k_is)
    (case kStore_look => k_is)
    (case aStore_take => k_is)
    (case lStore_take => k_is)
    (case cStore_take => k_is)
    (case kStore_take => k_is)
    (case aStore___len => k_is)
    (case lStore___len => k_is)
    (case cStore___len => k_is)
    (case kStore___len => k_is)
    (case aStore_held => k_is)
    (case lStore_held => k_is)
    (case cStore_held => k_is)
    (case kStore_held => k_is)
    (case aStore_grow => k_is)
    (case lStore_grow => k_is)
    (case cStore_grow => k_is)
    (case kStore_grow => k_is)
    (case aStore_trial => k_is)
    (case lStore_trial => k_is)
    (case cStore_trial => k_is)
    (case kStore_trial => k_is)
    (case aStore_attempt => k_is)
    (case lStore_attempt => k_is)
    (case cStore_attempt => k_is)
    (case kStore_attempt => k_is)
    (case aTrial___init => k_is)
    (case lTrial___init => k_is)
    (case cTrial___init => k_is)
    (case kTrial___init => k_is)
    (case aTrial___enter => k_is)
    (case lTrial___enter => k_is)
    (case cTrial___enter => k_is)
    (case kTrial___enter => k_is)
    (case aTrial___exit => k_is)
    (case lTrial___exit => k_is)
    (case cTrial___exit => k_is)
    (case kTrial___exit => k_is)
    (case alaw => k_is)
    (case llaw => k_is)
    (case claw => k_is)
    (case klaw => k_is)
    (case pgPlain => k_is)
    (case hdPlain => k_is)
    (case poPlain => k_is)
    (case saPlain => k_is)
    (case caPlain => k_is)
    (case cbPlain => k_is)
    (case ccPlain => k_is)
    (case cdPlain => k_is)
    (case noPlainrow => k_is)
    (case iPlain___init => k_is)
    (case mkPlain => k_is)
    (case kcPlain => k_is)
    (case iPlain_sizes => k_is)
    (case iPlain___eq => k_is)
    (case nePlain => k_is)
    (case obPlain => k_is)
    (case pgStore => k_is)
    (case hdStore => k_is)
    (case poStore => k_is)
    (case saStore => k_is)
    (case caStore => k_is)
    (case cbStore => k_is)
    (case ccStore => k_is)
    (case cdStore => k_is)
    (case noStoretable => k_is)
    (case noStorestate => k_is)
    (case noStoremost => k_is)
    (case noStorepast => k_is)
    (case iStore___init => k_is)
    (case mkStore => k_is)
    (case kcStore => k_is)
    (case iStore_limit => k_is)
    (case iStore_spot_of => k_is)
    (case iStore_check_cell => k_is)
    (case iStore_check_room => k_is)
    (case iStore_change => k_is)
    (case iStore_lay => k_is)
    (case iStore_look => k_is)
    (case iStore_take => k_is)
    (case iStore___len => k_is)
    (case iStore_held => k_is)
    (case iStore_grow => k_is)
    (case iStore_trial => k_is)
    (case iStore_attempt => k_is)
    (case pgTrial => k_is)
    (case hdTrial => k_is)
    (case poTrial => k_is)
    (case saTrial => k_is)
    (case caTrial => k_is)
    (case cbTrial => k_is)
    (case ccTrial => k_is)
    (case cdTrial => k_is)
    (case noTrialstore => k_is)
    (case noTrialstate => k_is)
    (case noTrialmost => k_is)
    (case noTrialpast => k_is)
    (case iTrial___init => k_is)
    (case mkTrial => k_is)
    (case kcTrial => k_is)
    (case iTrial___enter => k_is)
    (case iTrial___exit => k_is)
    (case nbool => k_is)
    (case ndict => k_is)
    (case nint => k_is)
    (case nisinstance => k_is)
    (case nlen => k_is)
    (case nlist => k_is)
    (case nmax => k_is)
    (case nrange => k_is)
    (case nset => k_is)
    (case nsorted => k_is)
    (case nstr => k_is)
    (case nsum => k_is)
    (case ntuple => k_is)
    (case nzip => k_is)
    (case aKSMALL => k_is)
    (case hTab => exact rfl)
    (case nTab => first | rfl | kernel_rfl | k_is)
