import PyProof.Rows.All
import Wide.All
import OpenK.AllK
import Wide.FinOn
import HandS.Base
import HandS.Call
import HandS.List
import HandS.Comp
import HandS.Ends
import HandS.Dict
import HandS.Iter
import HandS.Words
import HandS.Wide
import HandS.WideBits
import HandS.Defaults
import HandS.IsInst
import HandS.SortInts
import HandS.Strs
import HandS.TupAny
import HandS.Steps
import HandS.Set
import HandS.SetFor
import HandS.MakeKwOnly
import PyProof.Rows.SortShellAny
import PyProof.Rows.SortStr
import PyProof.Rows.StrMeet
import HandS.OwnEq
import HandS.DeepEq
import HandS.DictComp
import PyProof.InstNe
import HandS.Style
import HandS.RaiseMore
import PyProof.ReprRoads
import HandS.ExcInit
import HandS.ClsMeth
import HandS.ExcField
import HandS.ExcIs
import KE.KExcIs
import HandS.ExcValue
import PyProof.StrOps2
import HandS.HeadHook2
import PySem.Challenge.RW_cellplaces_k01_errors_made
set_option Elab.async false
set_option linter.all false
set_option maxRecDepth 100000
set_option maxHeartbeats 4000000

set_option Elab.async false
set_option linter.all false
set_option maxRecDepth 100000
set_option maxHeartbeats 4000000
/-! CP: own short words over the hand layer: operators by name, readings one step at a time -/
namespace CP
open PySem L2

/-! ### operators by name -/
abbrev oAdd : R2 := rI0 fun i j => .int (i + j)
abbrev oSub : R2 := rI0 fun i j => .int (i - j)
abbrev oMul : R2 := rI CMulW fun i j => .int (i * j)
abbrev oDiv : R2 := rI CDivW fun i j => .int (i / j)
abbrev oMod : R2 := rI (fun _ j => 0 < j) fun i j => .int (i % j)
abbrev oLt : R2 := rI0 fun i j => .bl (decide (i < j))
abbrev oLe : R2 := rI0 fun i j => .bl (decide (i ≤ j))
abbrev oGt : R2 := rI0 fun i j => .bl (decide (j < i))
abbrev oGe : R2 := rI0 fun i j => .bl (decide (j ≤ i))
abbrev oNeg : V → Hp → VK → Prop := rU fun i => .int (-i)
/-- a power of a base below 2 ^ 1000, the exponent at most 1000 -/
def CPw (i j : Int) : Prop := 0 ≤ j ∧ j ≤ 1000 ∧ i.natAbs < 2 ^ 1000
abbrev oPow : R2 := rI CPw fun i j => .int (i ^ j.toNat)
def oList (K : PySem.W.Frag) : List V → Hp → VK → Prop := fun xs H Q => ∃ p ys, xs = [.ref p] ∧ (SqL K H p ys ∨ SqT K H p ys) ∧ ∀ l, H l = none → Q (.ref l) (upd H l (.lst ys))
def oMax2 : List V → Hp → VK → Prop := fun xs H Q => ∃ i j, xs = [.int i, .int j] ∧ Q (.int (if j > i then j else i)) H
def oMin2 : List V → Hp → VK → Prop := fun xs H Q => ∃ i j, xs = [.int i, .int j] ∧ Q (.int (if j < i then j else i)) H
def oAbs : List V → Hp → VK → Prop := fun xs H Q => ∃ i, xs = [.int i] ∧ Q (.int (if i < 0 then -i else i)) H
def rLenA (K : PySem.W.Frag) : List V → Hp → VK → Prop := fun xs H Q => ∃ p ys, xs = [.ref p] ∧ (SqL K H p ys ∨ SqT K H p ys) ∧ Q (.int ys.length) H
section
variable {X : Cx}
theorem call_lenA : CallR X (.builtin "len") (rLenA X.K) := call_len_seq
theorem call_maxA (h : X.calm = true) : CallR X (.builtin "max") oMax2 := call_max2 h
theorem call_minA (h : X.calm = true) : CallR X (.builtin "min") oMin2 := call_min2 h
theorem call_absA : CallR X (.builtin "abs") oAbs := call_abs
theorem call_listA : CallR X (.type "list") (oList X.K) := call_list_of
theorem op_powW : OpR X (binaryOp .Pow) oPow := opI fun i j _ _ _ _ _ hc q => by
  obtain ⟨h0, h1, h2⟩ := hc
  refine PyProof.Rows.pow_int h0 ?_ q
  have b := PyProof.Rows.intBits_le h2
  have h3 : (Builtin.Int.intBits i : Int) * j ≤ 1000 * j := Int.mul_le_mul_of_nonneg_right (by omega) h0
  omega
end

/-! ### kinds of values, isinstance -/
def kinds : List String := ["NoneType", "bool", "int", "str", "list", "tuple", "dict"]
theorem kit_all : (kinds.all fun n => (["int", "bool", "str", "list", "tuple", "dict"]).all fun c => decide (kitB n c = some (n == c || (n == "bool" && c == "int")))) = true := by decide +kernel
theorem kit_in {K : PySem.W.Frag} {n c : String} (h : n ∈ kinds) (hc : c ∈ ["int", "bool", "str", "list", "tuple", "dict"]) : PySem.W.kitOne K (.type n) (.type c) = some (n == c || (n == "bool" && c == "int")) :=
  kit_ty (of_decide_eq_true (List.all_eq_true.mp (List.all_eq_true.mp kit_all n h) c hc))
/-- a value of one of these kinds -/
def TK (K : PySem.W.Frag) (H : Hp) (x : V) (n : String) : Prop := n ∈ kinds ∧ TyX K H x (.type n)
section
variable {K : PySem.W.Frag} {H : Hp} {Q : VK} {x : V} {n c : String}
theorem r_isi (h : TK K H x n) (hc : c ∈ ["int", "bool", "str", "list", "tuple", "dict"]) (q : Q (.bl (n == c || (n == "bool" && c == "int"))) H) : rIsi K [x, .ty c] H Q :=
  ⟨x, .ty c, .type n, .type c, _, rfl, .ty c, h.2, kit_in h.1 hc, q⟩
theorem tk_int {i : Int} : TK K H (.int i) "int" := ⟨by decide, .base (.int i)⟩
theorem tk_bl {b : Bool} : TK K H (.bl b) "bool" := ⟨by decide, .base (.bl b)⟩
theorem tk_non : TK K H .non "NoneType" := ⟨by decide, .base .non⟩
theorem tk_str {z : Str} : TK K H (.str z) "str" := ⟨by decide, .base (.str z)⟩
theorem tk_lst {a : Addr} {xs : List V} (h : H a = some (.lst xs)) : TK K H (.ref a) "list" := ⟨by decide, .base (.lst h)⟩
theorem tk_tup {a : Addr} {xs : List V} (h : H a = some (.tup xs)) : TK K H (.ref a) "tuple" := ⟨by decide, .base (.tup h)⟩
theorem tk_dK {a : Addr} {kvs : List (Key × V)} (h : H a = some (.dK kvs)) : TK K H (.ref a) "dict" := ⟨by decide, .base (.dK h)⟩
theorem tk_dT {a : Addr} {kvs : List (List Key × V)} (h : H a = some (.dT kvs)) : TK K H (.ref a) "dict" := ⟨by decide, .base (.dT h)⟩
end
/-! ### sizes of products, divisors -/
theorem mul_ok {i j : Int} (h : -(2 ^ 400) < i ∧ i < 2 ^ 400 ∧ -(2 ^ 400) < j ∧ j < 2 ^ 400) : CMulW i j :=
  wide_mul (a := 400) (b := 400) (by omega) (by omega) (by decide) (by decide) (by decide)
theorem mul_okN {a b : Nat} (h : a < 2 ^ 400 ∧ b < 2 ^ 400) : CMulW (a : Int) (b : Int) := mul_ok (by omega)
theorem div_ok {i j : Int} (h : 0 < j ∧ j < 2 ^ 400) : CDivW i j := wide_div (b := 400) h.1 (by omega) (by decide) (by decide)

/-! ### heaps: one that grows, one that changes at one place -/
/-- all but l stands -/
def SB (l : Addr) (H H' : Hp) : Prop := ∀ b o, b ≠ l → H b = some o → H' b = some o
section
variable {H H1 H' : Hp} {a l : Addr} {o u : HO}
theorem same_new (h : H a = none) : Same H (upd H a o) := fun b u e => by
  rw [upd_ne (ne_of_none e h)]
  exact e
theorem sb_upd : SB l H (upd H l o) := fun b u hb e => by
  rw [upd_ne hb]
  exact e
theorem Same.to (s : Same H H') (h : H a = some o) : H' a = some o := s a o h
theorem SB.to (s : SB l H H') (n : a ≠ l) (h : H a = some o) : H' a = some o := s a o n h
theorem Same.sb (s : Same H H1) (n : H l = none) (b : SB l H1 H') : Same H H' := fun c u e => b c u (ne_of_none e n) (s c u e)
theorem SB.same (s : SB l H H1) (b : Same H1 H') : SB l H H' := fun c u hc e => b c u (s c u hc e)
theorem SB.trans (s : SB l H H1) (b : SB l H1 H') : SB l H H' := fun c u hc e => b c u hc (s c u hc e)
theorem SB.new (s : SB l H H1) (n : H a = none) (b : SB a H1 H') : SB l H H' := fun c u hc e => b c u (ne_of_none e n) (s c u hc e)
theorem Same.toSB (s : Same H H') : SB l H H' := fun c u _ e => s c u e
theorem SB.free (e : SB a H H') (h : H' l = none) (n : l ≠ a) : H l = none := by
  cases q : H l with
  | none => rfl
  | some o =>
    rw [e l o n q] at h
    cases h
end

/-- many new objects told at once -/
theorem inv_grow {X : Cx} {pins : List (Addr × Obj)} {σ : St} {H H' : Hp} {s : Shared} {h' : Heap} {tk : Nat} (I : Inv X pins σ H s) (hk : ∀ b o, s.heap.get? b = some o → h'.get? b = some o) (ext : Same H H')
    (new : ∀ b o, H' b = some o → H b = some o ∨ (s.heap.objs.size ≤ b ∧ ObjOk X.prog X.w H' h' b o)) : Inv X pins σ H' { s with heap := h', toks := tk } := by
  have old : ∀ b o, s.heap.get? b = some o → H b = none → H' b = none := fun b o e n => by
    cases q : H' b with
    | none => rfl
    | some u =>
      rcases new b u q with z | ⟨z, _⟩
      · rw [n] at z; cases z
      · exact absurd (Heap.lt_size e) (Nat.not_lt.mpr z)
  refine I.un ⟨fun b o e _ _ _ => hk b o e, fun b o e _ _ _ => ⟨o.slots, hk b o e⟩, fun b o e n _ => old b o e n, fun b o e _ => ⟨o, hk b o e⟩, fun b xs e => ext b _ e, fun b o u e => ext b _ e, fun b ps e => ⟨#[], by rw [ext b _ e]; simp⟩⟩ fun b u e => ?_
  rcases new b u e with z | ⟨_, z⟩
  · exact (I.hok b u z).stay (fun c v _ q => hk c v q) (fun c q => ext c _ q) fun c xs q => ext c _ q
  · exact z

/-! ### readings one step at a time -/
section
variable {K : PySem.W.Frag} {σ : St} {H : Hp} {Q : VK} {D : Ends} {i j : Nat} {v x y : V} {ta tb te : TE} {tt tu : TT} {t1 t2 : TS} {tas tr : TA}
theorem r_var (h : σ[i]? = some (some v)) (q : Q v H) : tVar i σ H Q := ⟨v, h, q⟩
theorem r_c (q : Q v H) : tC v σ H Q := q
theorem r_op {r : R2} (q : ta σ H fun x H1 => tb σ H1 fun y H2 => r x y H2 Q) : tOp r ta tb σ H Q := q
theorem r_un {r : V → Hp → VK → Prop} (q : ta σ H fun x H1 => r x H1 Q) : tUn r ta σ H Q := q
theorem r_I0 {g : Int → Int → V} {i j : Int} (q : Q (g i j) H) : rI0 g (.int i) (.int j) H Q := ⟨i, j, rfl, rfl, q⟩
theorem r_I {C : Int → Int → Prop} {g : Int → Int → V} {i j : Int} (c : C i j) (q : Q (g i j) H) : rI C g (.int i) (.int j) H Q := ⟨i, j, rfl, rfl, c, q⟩
theorem r_U {g : Int → V} {i : Int} (q : Q (g i) H) : rU g (.int i) H Q := ⟨i, rfl, q⟩
theorem r_eq (h : scal x y = true) (q : Q (.bl (decide (x = y))) H) : rEq x y H Q := ⟨h, q⟩
theorem r_ne (h : scal x y = true) (q : Q (.bl (!decide (x = y))) H) : rNe x y H Q := ⟨h, q⟩
theorem r_eqI {i j : Int} (q : Q (.bl (decide (i = j))) H) : rEq (.int i) (.int j) H Q := ⟨rfl, by
  have e : decide (V.int i = V.int j) = decide (i = j) := by
    by_cases h : i = j
    · subst h; simp
    · have h' : ¬ V.int i = V.int j := fun z => h (V.int.inj z)
      simp [h]
  rw [e]; exact q⟩
theorem r_neI {i j : Int} (q : Q (.bl (!decide (i = j))) H) : rNe (.int i) (.int j) H Q := ⟨rfl, by
  have e : decide (V.int i = V.int j) = decide (i = j) := by
    by_cases h : i = j
    · subst h; simp
    · have h' : ¬ V.int i = V.int j := fun z => h (V.int.inj z)
      simp [h]
  rw [e]; exact q⟩
theorem r_isN (q : Q (.bl (decide (x = .non))) H) : rIsN x .non H Q := ⟨rfl, q⟩
theorem r_notN (q : Q (.bl (!decide (x = .non))) H) : rNotN x .non H Q := ⟨rfl, q⟩
theorem r_test {Q : Bool → Hp → Prop} (q : te σ H fun x H1 => ∃ k, x = .bl k ∧ Q k H1) : tTest te σ H Q := q
theorem r_tB {Q : Bool → Hp → Prop} (q : te σ H fun x H1 => ∃ k, x = .bl k ∧ Q k H1) : tB te σ H Q := q
theorem r_tru {Q : Bool → Hp → Prop} (q : te σ H fun x H1 => ∃ k, TruV K x H1 k ∧ Q k H1) : tTru K te σ H Q := q
theorem r_bl {b : Bool} {P : Bool → Prop} (q : P b) : ∃ k, V.bl b = .bl k ∧ P k := ⟨b, rfl, q⟩
theorem r_and {Q : Bool → Hp → Prop} (q : tt σ H fun c H1 => if c = true then tu σ H1 Q else Q false H1) : tAnd tt tu σ H Q := q
theorem r_or {Q : Bool → Hp → Prop} (q : tt σ H fun c H1 => if c = true then Q true H1 else tu σ H1 Q) : tOr tt tu σ H Q := q
theorem r_not {Q : Bool → Hp → Prop} (q : tt σ H fun c H1 => Q (!c) H1) : tNot tt σ H Q := q
theorem r_andV (q : ta σ H fun x H1 => ∃ c, x = .bl c ∧ if c = true then tb σ H1 Q else Q (.bl false) H1) : tAndV ta tb σ H Q := q
theorem r_orV (q : ta σ H fun x H1 => ∃ c, x = .bl c ∧ if c = true then Q (.bl true) H1 else tb σ H1 Q) : tOrV ta tb σ H Q := q
theorem r_notV (q : ta σ H fun x H1 => ∃ c, x = .bl c ∧ Q (.bl (!c)) H1) : tNotV ta σ H Q := q
theorem r_ifE (q : tt σ H fun c H1 => if c = true then ta σ H1 Q else tb σ H1 Q) : tIf tt ta tb σ H Q := q
theorem r_nil {Q : List V → Hp → Prop} (q : Q [] H) : tNil σ H Q := q
theorem r_cons {Q : List V → Hp → Prop} (q : ta σ H fun x H1 => tr σ H1 fun xs H2 => Q (x :: xs) H2) : tCons ta tr σ H Q := q
theorem r_cb {r : List V → Hp → VK → Prop} (q : tas σ H fun vs H1 => r vs H1 Q) : tCB r tas σ H Q := q
theorem r_call {sp : Sp} {E : XK} (q : tas σ H fun vs H1 => sp (vs ++ []) H1 Q E) : tCall sp [] E tas σ H Q := q
theorem r_callD {sp : Sp} {dvs : List V} {E : XK} (q : tas σ H fun vs H1 => sp (vs ++ dvs) H1 Q E) : tCall sp dvs E tas σ H Q := q
/-- a new object -/
def NewO (o : HO) (H : Hp) (Q : VK) : Prop := ∀ p, H p = none → Q (.ref p) (upd H p o)
theorem r_newO {o : HO} (q : ∀ p H', H p = none → Same H H' → H' p = some o → Q (.ref p) H') : NewO o H Q := fun p h => q p _ h (same_new h) upd_same
theorem r_lst (q : tas σ H fun xs H1 => xs.length ≤ sizeLine ∧ NewO (.lst xs) H1 Q) : tLst tas σ H Q := q
theorem r_tup (q : tas σ H fun xs H1 => xs.length ≤ sizeLine ∧ NewO (.tup xs) H1 Q) : tTup tas σ H Q := q
theorem r_dnewK (q : NewO (.dK []) H Q) : tDNewK σ H Q := q
theorem r_mk {n : Nat} {o : HO} (hz : n ≤ sizeLine) (q : ∀ p H', H p = none → Same H H' → H' p = some o → Q (.ref p) H') : n ≤ sizeLine ∧ NewO o H Q := ⟨hz, r_newO q⟩
/-- an object changed -/
def PutO (l : Addr) (o : HO) (H : Hp) (P : Hp → Prop) : Prop := P (upd H l o)
theorem r_putO {P : Hp → Prop} {l : Addr} {o : HO} (q : ∀ H', SB l H H' → H' l = some o → P H') : PutO l o H P := q _ sb_upd upd_same
/-! built-ins by what they say -/
theorem r_len {p : Addr} {ys : List V} (h : SqL K H p ys) (q : Q (.int ys.length) H) : rLenA K [.ref p] H Q := ⟨p, ys, rfl, .inl h, q⟩
theorem r_lenT {p : Addr} {ys : List V} (h : SqT K H p ys) (q : Q (.int ys.length) H) : rLenA K [.ref p] H Q := ⟨p, ys, rfl, .inr h, q⟩
theorem r_list {p : Addr} {ys : List V} (h : SqL K H p ys) (q : ∀ l H', H l = none → Same H H' → H' l = some (.lst ys) → Q (.ref l) H') : oList K [.ref p] H Q := ⟨p, ys, rfl, .inl h, fun l hl => q l _ hl (same_new hl) upd_same⟩
theorem r_max2 {i j : Int} (q : Q (.int (if j > i then j else i)) H) : oMax2 [.int i, .int j] H Q := ⟨i, j, rfl, q⟩
theorem r_min2 {i j : Int} (q : Q (.int (if j < i then j else i)) H) : oMin2 [.int i, .int j] H Q := ⟨i, j, rfl, q⟩
theorem r_abs {i : Int} (q : Q (.int (if i < 0 then -i else i)) H) : oAbs [.int i] H Q := ⟨i, rfl, q⟩
theorem r_sum {p : Addr} {ns : List Int} (h : SqL K H p (ns.map V.int)) (q : Q (.int ns.sum) H) : rSum K [.ref p] H Q := ⟨p, ns, rfl, h, q⟩
theorem r_cat {p b : Addr} {xs ys : List V} (h : H p = some (.lst xs)) (h2 : H b = some (.lst ys)) (hz : xs.length + ys.length ≤ sizeLine) (q : ∀ l H', H l = none → Same H H' → H' l = some (.lst (xs ++ ys)) → Q (.ref l) H') : rCat (.ref p) (.ref b) H Q :=
  ⟨p, b, xs, ys, rfl, rfl, h, h2, hz, fun l hl => q l _ hl (same_new hl) upd_same⟩
theorem r_app {p : Addr} {xs : List V} {y : V} (h : H p = some (.lst xs)) (hz : xs.length < sizeLine) (q : ∀ H', SB p H H' → H' p = some (.lst (xs ++ [y])) → Q .non H') : rAppend (.ref p) [y] H Q :=
  ⟨p, xs, y, rfl, rfl, h, hz, q _ sb_upd upd_same⟩
theorem r_slL {p : Addr} {xs : List V} {lo hi : Option Int} (h : SqL K H p xs) (q : ∀ l H', H l = none → Same H H' → H' l = some (.lst (cutV xs lo hi)) → Q (.ref l) H') : rSlL K (.ref p) lo hi H Q :=
  ⟨p, xs, rfl, h, fun l hl => q l _ hl (same_new hl) upd_same⟩
theorem r_ixL {p : Addr} {xs : List V} {i : Int} {v : V} (h : SqL K H p xs) (ha : atI xs i = some v) (q : Q v H) : rIxL K (.ref p) (.int i) H Q := ⟨p, xs, i, v, rfl, rfl, h, ha, q⟩
theorem r_ixT {p : Addr} {xs : List V} {i : Int} {v : V} (h : SqT K H p xs) (ha : atI xs i = some v) (q : Q v H) : rIxT K (.ref p) (.int i) H Q := ⟨p, xs, i, v, rfl, rfl, h, ha, q⟩
theorem r_setL {P : Hp → Prop} {p : Addr} {xs : List V} {i : Int} {j : Nat} {v : V} (h : H p = some (.lst xs)) (hj : ixN xs.length i = some j) (q : ∀ H', SB p H H' → H' p = some (.lst (xs.set j v)) → P H') : rSetL (.ref p) (.int i) v H P :=
  ⟨p, xs, i, j, rfl, rfl, h, hj, q _ sb_upd upd_same⟩
theorem r_gsub {to ti : TE} {t : TSet} {q' : St → Hp → Prop} (q : to σ H fun o H1 => ti σ H1 fun i H2 => t o i v H2 fun H3 => q' σ H3) : gSub to ti t v σ H q' := q
theorem r_in {p : Addr} {xs : List V} {neg : Bool} (h : SqL K H p xs) (hx : flatV x = true) (ha : xs.all flatV = true) (q : Q (.bl (if neg then !inV x xs else inV x xs)) H) : rIn K neg x (.ref p) H Q := ⟨p, xs, rfl, .inl h, hx, ha, q⟩
theorem r_inT {p : Addr} {xs : List V} {neg : Bool} (h : SqT K H p xs) (hx : flatV x = true) (ha : xs.all flatV = true) (q : Q (.bl (if neg then !inV x xs else inV x xs)) H) : rIn K neg x (.ref p) H Q := ⟨p, xs, rfl, .inr h, hx, ha, q⟩
theorem r_bits {te : TE} (q : te σ H fun x H1 => ∃ i, x = .int i ∧ Q (.int (Builtin.Int.intBits i : Nat)) H1) : tBits te σ H Q := q
theorem r_iTup {R : It → Hp → Prop} {tl : TE} (q : tl σ H fun x H1 => ∃ a, x = .ref a ∧ (∃ xs, SqT K H1 a xs) ∧ R (Itt K a) H1) : iTup K tl σ H R := q
theorem r_iList {R : It → Hp → Prop} {tl : TE} (q : tl σ H fun x H1 => ∃ a, x = .ref a ∧ (∃ xs, SqL K H1 a xs) ∧ R (Itl K a) H1) : iList K tl σ H R := q
theorem r_iRng1 {R : It → Hp → Prop} (q : tas σ H fun vs H1 => ∃ j : Int, vs = [.int j] ∧ -(2 ^ 62) ≤ j ∧ j < 2 ^ 62 ∧ R (Itr 0 j.toNat) H1) : iRng1 tas σ H R := q
theorem r_dget2 {td ty tx : TE} (q : td σ H fun x H1 => ∃ a, x = .ref a ∧ IsD H1 a ∧ ty σ H1 fun y H2 => tx σ H2 fun z H3 => ∃ o, DGet H3 a y o ∧ Q (o.getD z) H3) : tDGet2 td ty tx σ H Q := q
theorem r_sdput {td ty tv : TE} (q : tv σ H fun v H1 => td σ H1 fun x H2 => ty σ H2 fun y H3 => ∃ a H4, x = .ref a ∧ DPut H3 a y v H4 ∧ D.nx σ H4) : sDPut td ty tv D σ H := q
theorem r_disp1 {i j : Int} (q : ∀ D H', H D = none → Same H H' → H' D = some (.dK [(Sum.inl i, .int j)]) → Q (.ref D) H') : tDisp [(tC (.int i), tC (.int j))] σ H Q := fun D hD => by
  refine ⟨upd_same, [(Sum.inl i, .int j)], rfl, Nat.succ_le_succ (Nat.zero_le _), ?_⟩
  refine q D _ hD (fun b o hb => ?_) upd_same
  have hne : b ≠ D := fun e => by rw [e, hD] at hb; cases hb
  rw [upd_ne hne, upd_ne hne]
  exact hb
theorem r_iRng2 {R : It → Hp → Prop} (q : tas σ H fun vs H1 => ∃ i j : Int, vs = [.int i, .int j] ∧ (-(2 ^ 62) ≤ i ∧ i < 2 ^ 62 ∧ -(2 ^ 62) ≤ j ∧ j < 2 ^ 62) ∧ R (Itr i (j - i).toNat) H1) : iRng2 tas σ H R := q
theorem r_rng2 {P : Int → Int → Prop} {i j : Int} (h : -(2 ^ 62) ≤ i ∧ i < 2 ^ 62 ∧ -(2 ^ 62) ≤ j ∧ j < 2 ^ 62) (q : P i j) : ∃ i' j' : Int, [V.int i, V.int j] = [.int i', .int j'] ∧ (-(2 ^ 62) ≤ i' ∧ i' < 2 ^ 62 ∧ -(2 ^ 62) ≤ j' ∧ j' < 2 ^ 62) ∧ P i' j' := ⟨i, j, rfl, h, q⟩
theorem r_neB {a b : Bool} (q : Q (.bl (a != b)) H) : rNe (.bl a) (.bl b) H Q := ⟨rfl, by cases a <;> cases b <;> simpa using q⟩
theorem r_eqB {a b : Bool} (q : Q (.bl (a == b)) H) : rEq (.bl a) (.bl b) H Q := ⟨rfl, by cases a <;> cases b <;> simpa using q⟩
theorem r_gtup {n : Nat} {u : TGs} {p : Addr} {xs : List V} {q' : St → Hp → Prop} (h : SqT K H p xs) (hl : xs.length = n) (q : u xs σ H q') : gTup K n u (.ref p) σ H q' := ⟨p, xs, rfl, h, hl, q⟩
theorem r_gcons {t : TG} {u : TGs} {v : V} {r : List V} {q' : St → Hp → Prop} (q : t v σ H fun σ' H' => u r σ' H' q') : gCons t u (v :: r) σ H q' := ⟨v, r, rfl, q⟩
theorem r_gnil {q' : St → Hp → Prop} (q : q' σ H) : gNil [] σ H q' := ⟨rfl, q⟩
theorem r_rng {P : Int → Prop} {j : Int} (h1 : -(2 ^ 62) ≤ j) (h2 : j < 2 ^ 62) (q : P j) : ∃ k : Int, [V.int j] = [.int k] ∧ -(2 ^ 62) ≤ k ∧ k < 2 ^ 62 ∧ P k := ⟨j, rfl, h1, h2, q⟩
/-- a comprehension over a list that stands, of flat tests and elements: what it makes -/
theorem r_lc {wi : TI} {g : TG} {vs : List Nat} (q : wi σ H fun J H1 => ∀ D, H1 D = none → ∃ W : Nat → Nat → Hp → Prop, (∃ m, W 0 m (upd H1 D (.lst []))) ∧ ∀ i m H, W i m H →
    (J.stop i H ∧ Q (.ref D) H) ∨ (J.go i H ∧ ∃ Nx : Hp → Prop, (∀ H', Nx H' → ∃ m', m' < m ∧ W (i + 1) m' H') ∧ ∀ x H', J.yld i H x H' → g x (wipe σ vs) H' fun σ2 H2 => wipe σ2 vs = wipe σ vs ∧ tt σ2 H2 fun b H3 =>
      if b = true then te σ2 H3 fun y H4 => ∃ acc, H4 D = some (.lst acc) ∧ acc.length < sizeLine ∧ Nx (upd H4 D (.lst (acc ++ [y]))) else Nx H3)) : tLc wi g tt te vs σ H Q := q
/-! statements -/
theorem r_seq (q : t1 { D with nx := t2 D } σ H) : tSeq t1 t2 D σ H := q
theorem r_next (q : D.nx σ H) : tNext D σ H := q
theorem r_brk (q : D.bk σ H) : tBreak D σ H := q
theorem r_cont (q : D.ct σ H) : tCont D σ H := q
theorem r_asg {g : TG} (q : te σ H fun x H1 => g x σ H1 D.nx) : tAsg te g D σ H := q
theorem r_name {q' : St → Hp → Prop} (q : q' (σ.set i (some v)) H) : gName i v σ H q' := q
theorem r_par (q : tas σ H fun vs H1 => ∃ v w, vs = [v, w] ∧ D.nx ((σ.set i (some v)).set j (some w)) H1) : tPar i j tas D σ H := q
theorem r_two {v w : V} {P : V → V → Prop} (q : P v w) : ∃ x y, [v, w] = [x, y] ∧ P x y := ⟨v, w, rfl, q⟩
theorem r_ret (q : te σ H D.rt) : tRet te D σ H := q
theorem r_retN (q : D.rt .non H) : tRetN D σ H := q
theorem r_drop (q : te σ H fun _ H1 => D.nx σ H1) : tDrop te D σ H := q
theorem r_ifS (q : tt σ H fun b H1 => if b = true then t1 D σ H1 else t2 D σ H1) : tIfS tt t1 t2 D σ H := q
/-! branches -/
theorem if_d {c : Prop} [Decidable c] {A B : Prop} (h1 : c → A) (h2 : ¬ c → B) : if decide c = true then A else B := by
  by_cases h : c
  · rw [decide_eq_true h, if_pos rfl]; exact h1 h
  · rw [decide_eq_false h, if_neg Bool.false_ne_true]; exact h2 h
theorem if_nd {c : Prop} [Decidable c] {A B : Prop} (h1 : ¬ c → A) (h2 : c → B) : if (!decide c) = true then A else B := by
  by_cases h : c
  · rw [decide_eq_true h]; exact h2 h
  · rw [decide_eq_false h]; exact h1 h
theorem if_b {b : Bool} {A B : Prop} (h1 : b = true → A) (h2 : b = false → B) : if b = true then A else B := by
  cases b with
  | true => exact h1 rfl
  | false => exact h2 rfl
theorem if_nb {b : Bool} {A B : Prop} (h1 : b = false → A) (h2 : b = true → B) : if (!b) = true then A else B := by
  cases b with
  | true => exact h2 rfl
  | false => exact h1 rfl
theorem if_t {A B : Prop} (h : A) : if true = true then A else B := h
theorem if_f {A B : Prop} (h : B) : if false = true then A else B := h
theorem if_nt {A B : Prop} (h : A) : if (!false) = true then A else B := h
theorem if_nf {A B : Prop} (h : B) : if (!true) = true then A else B := h
/-- the loop of a comprehension over a list at a: test and element read values alone -/
theorem lc_pure {a : Addr} {xs : List V} {g : TG} {vs : List Nat} {D : Addr} {H1 : Hp} {Qd : Hp → Prop} (p : V → Bool) (f : V → V) (hD : H1 D = none) (ha : SqL K H1 a xs) (hz : xs.length < sizeLine)
    (hs : ∀ x ∈ xs, ∀ H, Same H1 H → ∀ R : St → Hp → Prop, (∀ σ2, wipe σ2 vs = wipe σ vs ∧ (∀ Q' : Bool → Hp → Prop, Q' (p x) H → tt σ2 H Q') ∧ (p x = true → ∀ Q' : VK, Q' (f x) H → te σ2 H Q') → R σ2 H) → g x (wipe σ vs) H R)
    (hd : ∀ H', Same H1 H' → H' D = some (.lst ((xs.filter p).map f)) → Qd H') :
    ∃ W : Nat → Nat → Hp → Prop, (∃ m, W 0 m (upd H1 D (.lst []))) ∧ ∀ i m H, W i m H →
      ((Itl K a).stop i H ∧ Qd H) ∨ ((Itl K a).go i H ∧ ∃ Nx : Hp → Prop, (∀ H', Nx H' → ∃ m', m' < m ∧ W (i + 1) m' H') ∧ ∀ x H', (Itl K a).yld i H x H' → g x (wipe σ vs) H' fun σ2 H2 => wipe σ2 vs = wipe σ vs ∧ tt σ2 H2 fun b H3 =>
        if b = true then te σ2 H3 fun y H4 => ∃ acc, H4 D = some (.lst acc) ∧ acc.length < sizeLine ∧ Nx (upd H4 D (.lst (acc ++ [y]))) else Nx H3) := by
  refine lc_list (K := K) (a := a) (xs := xs) (fun i H => Same H1 H ∧ H D = some (.lst (((xs.take i).filter p).map f))) ⟨same_new hD, by rw [upd_same]; rfl⟩ (fun i H _ w => w.1.seq ha) ?_ ?_
  · rintro i x H hi ⟨s, e⟩
    have hx : x ∈ xs := List.mem_of_getElem? hi
    have tk : xs.take (i + 1) = xs.take i ++ [x] := by rw [List.take_add_one, hi]; rfl
    refine hs x hx H s _ fun σ2 ⟨w, h1, h2⟩ => ⟨w, h1 _ ?_⟩
    cases c : p x with
    | true =>
      refine if_t (h2 c _ ⟨_, e, ?_, CP.Same.sb s hD sb_upd, ?_⟩)
      · have q1 := List.length_filter_le p (xs.take i)
        have q2 : (xs.take i).length = min i xs.length := List.length_take
        rw [List.length_map]
        omega
      · rw [upd_same, tk, List.filter_append, List.map_append, List.filter_cons_of_pos c]
        rfl
    | false =>
      refine if_f ⟨s, ?_⟩
      rw [tk, List.filter_append, List.filter_cons_of_neg (by rw [c]; decide), List.filter_nil, List.append_nil]
      exact e
  · rintro H ⟨s, e⟩
    rw [List.take_length] at e
    exact hd H s e
theorem r_sl {r : V → Option Int → Option Int → Hp → VK → Prop} {tl th : TO} (q : te σ H fun x H1 => tl σ H1 fun l H2 => th σ H2 fun u H3 => r x l u H3 Q) : tSl r te tl th σ H Q := q
theorem r_noPart {Q : Option Int → Hp → Prop} (q : Q none H) : tNoPart σ H Q := q
theorem r_part {Q : Option Int → Hp → Prop} (q : te σ H fun x H1 => ∃ i, x = .int i ∧ Q (some i) H1) : tPart te σ H Q := q
theorem r_int {i : Int} {P : Int → Prop} (q : P i) : ∃ k, V.int i = .int k ∧ P k := ⟨i, rfl, q⟩
theorem r_bm {T : String} {r : V → List V → Hp → VK → Prop} (q : ta σ H fun x H1 => tyV K T x H1 ∧ tas σ H1 fun xs H2 => r x xs H2 Q) : tBM K T r ta tas σ H Q := q
theorem r_bm0 {T : String} {r : V → List V → Hp → VK → Prop} (q : ta σ H fun x H1 => tyV K T x H1 ∧ r x [] H1 Q) : tBM0 K T r ta σ H Q := q
/-! loops -/
/-- a while: W tells the slots and the heap by a datum, μ falls -/
theorem r_while {α : Type} {c : TT} {tb : TS} (W : α → St → Hp → Prop) (μ : α → Nat) (a0 : α) (h0 : W a0 σ H)
    (hs : ∀ a σ H, W a σ H → c σ H fun b H1 => if b = true then tb { D with nx := fun σ' H' => ∃ a', W a' σ' H' ∧ μ a' < μ a, ct := fun σ' H' => ∃ a', W a' σ' H' ∧ μ a' < μ a, bk := D.nx } σ H1 else D.nx σ H1)
    (mono : ∀ σ H Q Q', (∀ b H1, Q b H1 → Q' b H1) → c σ H Q → c σ H Q') : tWhile c tb D σ H := by
  refine ⟨fun m σ H => ∃ a, μ a = m ∧ W a σ H, ⟨_, a0, rfl, h0⟩, ?_⟩
  rintro m σ H ⟨a, rfl, w⟩
  refine mono σ H _ _ (fun b H1 q => ?_) (hs a σ H w)
  cases b with
  | true => exact ⟨_, fun σ' H' ⟨a', w', l⟩ => ⟨_, l, a', rfl, w'⟩, q⟩
  | false => exact q
/-- the same where the test's outcome is known by the datum -/
theorem r_whileD {α : Type} {c : TT} {tb : TS} (W : α → St → Hp → Prop) (μ : α → Nat) (go : α → Bool) (a0 : α) (h0 : W a0 σ H)
    (hc : ∀ a σ H, W a σ H → ∀ Q : Bool → Hp → Prop, Q (go a) H → c σ H Q)
    (hs : ∀ a σ H, W a σ H → go a = true → tb { D with nx := fun σ' H' => ∃ a', W a' σ' H' ∧ μ a' < μ a, ct := fun σ' H' => ∃ a', W a' σ' H' ∧ μ a' < μ a, bk := D.nx } σ H)
    (hd : ∀ a σ H, W a σ H → go a = false → D.nx σ H) : tWhile c tb D σ H := by
  refine ⟨fun m σ H => ∃ a, μ a = m ∧ W a σ H, ⟨_, a0, rfl, h0⟩, ?_⟩
  rintro m σ H ⟨a, rfl, w⟩
  refine hc a σ H w _ ?_
  cases e : go a with
  | true =>
    rw [if_pos rfl]
    exact ⟨_, fun σ' H' ⟨a', w', l⟩ => ⟨_, l, a', rfl, w'⟩, hs a σ H w e⟩
  | false =>
    rw [if_neg Bool.false_ne_true]
    exact hd a σ H w e
theorem r_for {wi : TI} {g : TG} {tb : TS} (q : wi σ H fun J H1 => ∃ W : Nat → Nat → St → Hp → Prop, (∃ m, W 0 m σ H1) ∧ ∀ i m σ H, W i m σ H →
    (J.stop i H ∧ D.nx σ H) ∨ (J.go i H ∧ ∃ N : St → Hp → Prop, (∀ σ' H', N σ' H' → ∃ m', m' < m ∧ W (i + 1) m' σ' H') ∧ ∀ x H', J.yld i H x H' → g x σ H' fun σ2 H2 => tb { D with nx := N, ct := N, bk := D.nx } σ2 H2)) : tFor wi g tb D σ H := q
end
section
variable {H : Hp} {Q : VK} {p : Addr}
theorem r_notNr (q : Q (.bl true) H) : rNotN (.ref p) .non H Q := ⟨rfl, by rw [decide_eq_false (fun z => nomatch z)]; exact q⟩
theorem r_notNn (q : Q (.bl false) H) : rNotN .non .non H Q := ⟨rfl, by rw [decide_eq_true rfl]; exact q⟩
theorem r_isNr (q : Q (.bl false) H) : rIsN (.ref p) .non H Q := ⟨rfl, by rw [decide_eq_false (fun z => nomatch z)]; exact q⟩
theorem r_isNn (q : Q (.bl true) H) : rIsN .non .non H Q := ⟨rfl, by rw [decide_eq_true rfl]; exact q⟩
end
end CP

set_option Elab.async false
set_option linter.all false
set_option maxRecDepth 100000
set_option maxHeartbeats 4000000
set_option autoImplicit false
/-! lists of counts as values -/
namespace CP
open L2 PySem PyProof.Rows
def natL (l : List Nat) : List V := l.map fun n : Nat => V.int (n : Int)
theorem natL_int (l : List Nat) : natL l = (l.map fun n : Nat => (n : Int)).map V.int := by
  unfold natL
  rw [List.map_map]
  rfl
theorem natL_app (l m : List Nat) : natL (l ++ m) = natL l ++ natL m := List.map_append
theorem natL_length (l : List Nat) : (natL l).length = l.length := List.length_map _
theorem natL_one (n : Nat) : natL [n] = [.int (n : Int)] := rfl
theorem natL_get {l : List Nat} {i : Nat} {x : V} (h : (natL l)[i]? = some x) : ∃ n, l[i]? = some n ∧ x = .int (n : Int) := by
  unfold natL at h
  rw [List.getElem?_map] at h
  cases e : l[i]? with
  | none => rw [e] at h; cases h
  | some n => rw [e] at h; exact ⟨n, rfl, (Option.some.inj h).symm⟩
theorem take_succ {α : Type} {l : List α} {i : Nat} {n : α} (h : l[i]? = some n) : l.take (i + 1) = l.take i ++ [n] := by
  rw [List.take_add_one, h]
  rfl
theorem foldl_succ {α β : Type} {f : β → α → β} {b : β} {l : List α} {i : Nat} {n : α} (h : l[i]? = some n) : (l.take (i + 1)).foldl f b = f ((l.take i).foldl f b) n := by
  rw [take_succ h, List.foldl_append]
  rfl
theorem natL_flat (l : List Nat) : (natL l).all flatV = true := by
  unfold natL
  rw [List.all_map]
  exact List.all_eq_true.mpr fun _ _ => rfl
theorem inV_nat (n : Nat) (l : List Nat) : inV (.int (n : Int)) (natL l) = l.contains n := by
  unfold inV natL
  induction l with
  | nil => rfl
  | cons a l ih =>
    rw [List.map_cons, List.any_cons, ih, List.contains_cons]
    congr 1
    show ((a : Int) == (n : Int)) = (n == a)
    by_cases e : a = n
    · subst e; simp
    · have e1 : ((a : Int) == (n : Int)) = false := by rw [beq_eq_false_iff_ne]; omega
      have e2 : (n == a) = false := by rw [beq_eq_false_iff_ne]; exact fun z => e z.symm
      rw [e1, e2]
theorem natL_inj {l m : List Nat} (h : natL l = natL m) : l = m := by
  induction l generalizing m with
  | nil =>
    cases m with
    | nil => rfl
    | cons b m => cases h
  | cons a l ih =>
    cases m with
    | nil => cases h
    | cons b m =>
      have h1 := List.cons.inj h
      have e : (a : Int) = b := V.int.inj h1.1
      rw [ih h1.2, Int.ofNat.inj e]
/-- a sorted list of ints without doubles, the same members as a list of counts -/
theorem ints_nat {us : List Int} {l : List Nat} (h1 : us.Pairwise (· < ·)) (h2 : ∀ k, k ∈ us ↔ k ∈ l.map fun n : Nat => (n : Int)) : ∃ m : List Nat, us = m.map (fun n : Nat => (n : Int)) ∧ m.Pairwise (· < ·) ∧ ∀ n, n ∈ m ↔ n ∈ l := by
  have pos : ∀ k ∈ us, ∃ n : Nat, k = (n : Int) := fun k hk => by
    obtain ⟨n, _, e⟩ := List.mem_map.mp ((h2 k).mp hk)
    exact ⟨n, e.symm⟩
  have e : us = (us.map Int.toNat).map (fun n : Nat => (n : Int)) := by
    rw [List.map_map]
    conv => lhs; rw [← List.map_id us]
    refine List.map_congr_left fun k hk => ?_
    obtain ⟨n, rfl⟩ := pos k hk
    rfl
  refine ⟨us.map Int.toNat, e, ?_, fun n => ?_⟩
  · rw [List.pairwise_map]
    refine h1.imp_of_mem fun {a b} ha hb hab => ?_
    obtain ⟨x, rfl⟩ := pos a ha
    obtain ⟨y, rfl⟩ := pos b hb
    simp only [Int.toNat_natCast]
    omega
  · constructor
    · intro h
      obtain ⟨k, hk, rfl⟩ := List.mem_map.mp h
      obtain ⟨x, hx, rfl⟩ := List.mem_map.mp ((h2 k).mp hk)
      simpa using hx
    · intro h
      exact List.mem_map.mpr ⟨(n : Int), (h2 n).mpr (List.mem_map.mpr ⟨n, h, rfl⟩), by simp⟩
theorem inV_two (p a b : Int) : inV (.int p) [.int a, .int b] = decide (p = a ∨ p = b) := by
  unfold inV
  show (a == p || (b == p || false)) = _
  by_cases h1 : p = a
  · subst h1; simp
  · by_cases h2 : p = b
    · subst h2; simp
    · have e1 : (a == p) = false := by rw [beq_eq_false_iff_ne]; exact fun z => h1 z.symm
      have e2 : (b == p) = false := by rw [beq_eq_false_iff_ne]; exact fun z => h2 z.symm
      rw [e1, e2, decide_eq_false (by omega)]
      rfl
theorem count_nat (l : List Nat) (n : Nat) : (l.map fun n : Nat => (n : Int)).count (n : Int) = l.count n := by
  induction l with
  | nil => rfl
  | cons a l ih =>
    rw [List.map_cons, List.count_cons, List.count_cons, ih]
    by_cases e : a = n
    · subst e; simp
    · have e1 : ((a : Int) == (n : Int)) = false := by rw [beq_eq_false_iff_ne]; omega
      have e2 : (a == n) = false := by rw [beq_eq_false_iff_ne]; exact e
      rw [e1, e2]
/-- a loop over a range that may be left early: Post holds behind it -/
theorem for_rangeP {lo : Int} {n : Nat} {g : TG} {tb : TS} {D : Ends} {σ : L2.St} {H : Hp} (Pv : Nat → L2.St → Hp → Prop) (Post : L2.St → Hp → Prop) (h0 : Pv 0 σ H)
    (hs : ∀ i σ H, i < n → Pv i σ H → ∀ B : L2.St → Hp → Prop, (∀ σ H, Post σ H → B σ H) → g (.int (lo + i)) σ H fun σ2 H2 => tb { D with nx := Pv (i + 1), ct := Pv (i + 1), bk := B } σ2 H2)
    (he : ∀ σ H, Pv n σ H → Post σ H) (hd : ∀ σ H, Post σ H → D.nx σ H) :
    ∃ W : Nat → Nat → L2.St → Hp → Prop, (∃ m, W 0 m σ H) ∧ ∀ i m σ H, W i m σ H →
      ((Itr lo n).stop i H ∧ D.nx σ H) ∨ ((Itr lo n).go i H ∧ ∃ N : L2.St → Hp → Prop, (∀ σ' H', N σ' H' → ∃ m', m' < m ∧ W (i + 1) m' σ' H') ∧ ∀ x H', (Itr lo n).yld i H x H' → g x σ H' fun σ2 H2 => tb { D with nx := N, ct := N, bk := D.nx } σ2 H2) :=
  for_range Pv h0 (fun i σ H hi p => hs i σ H hi p _ hd) fun σ H p => hd σ H (he σ H p)
end CP

set_option Elab.async false
set_option linter.all false
set_option maxRecDepth 100000
set_option maxHeartbeats 4000000
/-! sets of ints and of texts made of a list; sorted(set(list)) -/
namespace CP
open PySem L2

/-- the object of a set just made -/
abbrev set0 (w : World) : Obj := { cls := .type "set", dict := none, data := .set #[] 0 (.fresh 0 0 (!w.params.followText "set-order")) }
abbrev lit0 (l : Addr) : Obj := { cls := .type "list_iterator", data := .fields #[.ref l, .int 0 0] }
section
variable {P : Program} {w : World} {A : Around} {E : Value → Shared → Prop} {s : Shared} {Fin : Heap → Prop}
set_option maxRecDepth 100000 in
set_option maxHeartbeats 4000000 in
/-- set(l), l a list: its loop is what the caller says (it leaves the set as Fin tells) -/
theorem set_of_list {l : Addr} {items : Array Value} {Q : Value → Shared → Prop} (hl : s.heap.IsList l items)
    (loop : ∀ (A' : Around) (R : Result → Shared → Prop) (s1 : Shared), A'.handled = A.handled → s1.heap = (s.heap.push (set0 w)).push (lit0 l) →
      (∀ s', Moved [s.heap.objs.size, s.heap.objs.size + 1] (fun a b => b = a) s1 s' → Fin s'.heap → R (.ok (.ret .none)) s') →
      codeAny (model P w) A' (.builtin "set.update.loop" ⟨[.ref s.heap.objs.size, .ref (s.heap.objs.size + 1)], []⟩) R s1)
    (h : ∀ (h' : Heap) (tk : Nat), Fin h' → (∀ b o, s.heap.get? b = some o → h'.get? b = some o) → Q (.ref s.heap.objs.size) { s with heap := h', toks := tk }) :
    wpAny (model P w) A (call (.type "set") [.ref l]) Q E s := by
  have f1 := F.called_set.made
  have f2 := F.called_set.sub
  have f3 := F.called_set.notType
  have f4 := F.called_set.canCreate
  have f5 := F.typeCall_set_1 (.ref l)
  obtain ⟨cn, tl, f6⟩ := F.called_set.mro
  refine wpAny_call (codeAny_of_tree ?_)
  show wpAny _ _ (callAny (.type "set") _) _ _ _
  have e0 := weight_type_call_type "set" [.ref l] []
  refine wpAny_pure ⟨Code.quiet_builtin _ (by decide +kernel),
    codeAny_builtin F.entry_type_call ?_⟩
  rw [Around.under_plain e0 rfl]
  repeat (any_goals (first | assumption | wp_step))
  refine codeAny_mono (code_set_led1 (.ref l) (E := E)
    (Q₁ := fun v s₁ => v = .ref s.heap.objs.size ∧ s₁ = { s with heap := s.heap.push (set0 w) }) ⟨rfl, rfl⟩) fun r s₁ hr => ?_
  cases r with
  | error e => exact hr
  | ok fl =>
    cases fl with
    | ret obj =>
      obtain ⟨rfl, rfl⟩ := hr
      have g0 : (s.heap.push (set0 w)).get? s.heap.objs.size = some (set0 w) := Heap.get?_push_size _ rfl
      have gT : Shared.TypeIs { s with heap := s.heap.push (set0 w) } (.ref s.heap.objs.size) "set" := ⟨_, g0, rfl⟩
      have f7 := F.called_set.init.lookup
      have f8 := F.called_set.init.bind (.ref s.heap.objs.size)
      repeat (any_goals (first | assumption | wp_step))
      refine codeAny_mono (codeAny_call_builtin
        (R := wants (fun r s₂ => r = .none ∧ ∃ h' tk, s₂ = { s with heap := h', toks := tk } ∧ Fin h' ∧ ∀ b o, s.heap.get? b = some o → h'.get? b = some o) E)
        F.called_set.init.plain F.entry_set_init (check_set_init_1 gT ?_)) fun r₂ s₂ hr₂ => ?_
      · obtain ⟨ol, hol, hcl, nl, hdl⟩ := hl
        obtain ⟨c1, c2, c3, c4⟩ := ol
        simp only at hcl hdl
        subst hcl; subst hdl
        have hol' : (s.heap.push (set0 w)).get? l = some { cls := .type "list", dict := c2, data := .seq items nl, slots := c4 } := Heap.get?_push_of_some _ hol
        have u1 := F.sub_list_set
        have u2 := F.sub_list_frozenset
        have u3 : (Value.type "list" == Value.type "dict") = false := by decide
        have hl1 : (s.heap.push (set0 w)).IsList l items := ⟨_, hol', rfl, nl, rfl⟩
        clear f1 f2 f3 f4 f5 f6 f7 f8 e0 g0 gT h
        unfold Builtin.«set.__init__» noKeywords Builtin.Frozenset.updateFrom
        generalize hPI : pyIter = PI
        wp_walk
        subst hPI
        refine wpAny_pyIter_list hl1 ?_
        refine wpAny_bind (wpAny_runValue ?_)
        have z1 : (s.heap.push (set0 w)).objs.size = s.heap.objs.size + 1 := Heap.size_push ..
        rw [z1]
        refine loop _ _ _ (by simp) rfl fun s' hm hF => ?_
        obtain ⟨h', g2, d', tk', os'⟩ := s'
        have q1 : g2 = s.gens := hm.gens
        have q2 : d' = s.drawn := hm.drawn
        have q3 : os' = s.os := hm.os
        subst q1; subst q2; subst q3
        show wpAny _ _ _ _ _ _
        refine wpAny_pure ?_
        show wpAny _ _ (ret Value.none) _ _ _
        refine wpAny_pure ⟨rfl, h', tk', rfl, hF, fun b o e => ?_⟩
        have lt := Heap.lt_size e
        refine hm.heap b o (fun z => ?_) (Heap.get?_push_of_some _ (Heap.get?_push_of_some _ e))
        rcases List.mem_cons.mp z with z | z
        · exact absurd z (Nat.ne_of_lt lt)
        · exact absurd (List.mem_singleton.mp z) (Nat.ne_of_lt (Nat.lt_succ_of_lt lt))
      · cases r₂ with
        | error e => exact hr₂
        | ok fl₂ =>
          cases fl₂ with
          | ret r =>
            obtain ⟨rfl, h', tk, rfl, hF, hk⟩ := hr₂
            repeat (any_goals (first | assumption | wp_step))
            exact h _ _ hF hk
          | _ => exact hr₂.elim
    | _ => exact hr.elim
end
end CP

set_option Elab.async false
set_option linter.all false
set_option maxRecDepth 100000
set_option maxHeartbeats 4000000
/-! sets of ints made of a list; sorted(set(list)) -/
namespace CP
open PySem L2
section
variable {P : Program} {w : World} {A : Around} {E : Value → Shared → Prop} {s : Shared}
/-- the loop over ints -/
theorem loop_ints {l : Addr} {items : Array Value} {ns : List Int} (hh : A.handled = none) (hl : s.heap.IsList l items) (hi : PyProof.Rows.IntsAre items.toList ns) (hb : ns.length + 1 < scanBound) :
    ∀ (A' : Around) (R : Result → Shared → Prop) (s1 : Shared), A'.handled = A.handled → s1.heap = (s.heap.push (set0 w)).push (lit0 l) →
      (∀ s', Moved [s.heap.objs.size, s.heap.objs.size + 1] (fun a b => b = a) s1 s' → (∃ c, c ≤ ns.length ∧ SetR w s'.heap s.heap.objs.size (fun j => decide (j ∈ ns)) c) → R (.ok (.ret .none)) s') →
      codeAny (model P w) A' (.builtin "set.update.loop" ⟨[.ref s.heap.objs.size, .ref (s.heap.objs.size + 1)], []⟩) R s1 := by
  intro A' R s1 hA e1 k
  have hsz : items.size = ns.length := by
    have q := PyProof.Rows.IntsAre.length hi
    rwa [Array.length_toList] at q
  have hlt : l < s.heap.objs.size := by
    obtain ⟨o, e, _⟩ := hl
    exact Heap.lt_size e
  have z1 : (s.heap.push (set0 w)).objs.size = s.heap.objs.size + 1 := Heap.size_push ..
  have g0 : s1.heap.get? s.heap.objs.size = some (set0 w) := by
    rw [e1]; exact Heap.get?_push_of_some _ (Heap.get?_push_size _ rfl)
  have gI : s1.heap.get? (s.heap.objs.size + 1) = some (lit0 l) := by
    have q := Heap.get?_push_size (o := lit0 l) (s.heap.push (set0 w)) rfl
    rw [z1] at q
    rw [e1]; exact q
  have gl : s1.heap.IsList l items := by rw [e1]; exact (hl.push _).push _
  have W := (Walks.list (prog := P) (w := w) (A := A'.in1) (by simp [hA, hh]) (s.heap.objs.size + 1) l (Nat.ne_of_lt (Nat.lt_succ_of_lt hlt)) items).toS
  refine set_update_ints W s.heap.objs.size ?_ ns hsz hb ?_ (items.size - 0) 0 s1 rfl (Nat.zero_le _) ⟨⟨_, gI, rfl, rfl⟩, gl⟩ ⟨0, Nat.le_refl 0, setR_new_at g0⟩ fun s' c hm hc hS => ?_
  · intro z
    rcases List.mem_cons.mp z with z | z
    · exact absurd z (Nat.ne_of_lt (Nat.lt_succ_self _))
    · exact absurd (List.mem_singleton.mp z) (Nat.ne_of_gt hlt)
  · intro i v hv
    have hin : i < ns.length := by rw [← hsz]; exact (Array.getElem?_eq_some_iff.mp hv).1
    obtain ⟨t, e⟩ := PyProof.Rows.IntsAre.int_at hi i v (by rw [Array.getElem?_toList]; exact hv)
    refine ⟨ns[i], t, List.getElem?_eq_getElem hin, ?_⟩
    rw [e, List.getD_eq_getElem?_getD, List.getElem?_eq_getElem hin]
    rfl
  · exact k s' hm ⟨c, by omega, hS⟩
end
/-- set(xs), a list of ints -/
def rSetI (K : PySem.W.Frag) (w : World) : List V → Hp → VK → Prop := fun xs H Q => ∃ (l : Addr) (ns : List Int), xs = [.ref l] ∧ SqL K H l (ns.map V.int) ∧ ns.length < 4000 ∧
  ∀ p c, H p = none → c ≤ ns.length → Q (.ref p) (upd H p (SetO w p (fun j => decide (j ∈ ns)) c))
section
variable {X : Cx}
theorem cr_setI (hc : X.calm = true) : CallR X (.type "set") (rSetI X.K X.w) := by
  intro pins s σ H xs us Q I r h
  obtain ⟨l, ns, rfl, hl, hn, q⟩ := h
  obtain ⟨u, rfl, ru⟩ := vals1 r
  cases (show u = Value.ref l from ru)
  obtain ⟨its, rv, pl, hz⟩ := I.list hl
  have hi : PyProof.Rows.IntsAre its.toArray.toList ns := by simpa using ints_of_vals rv
  have hd : X.A.handled = none := I.ok.hd hc
  refine set_of_list (P := X.prog) (w := X.w) (Fin := fun h => ∃ c, c ≤ ns.length ∧ SetR X.w h s.heap.objs.size (fun j => decide (j ∈ ns)) c) pl.isList (loop_ints hd pl.isList hi (by unfold scanBound; omega)) fun h' tk hF hk => ?_
  obtain ⟨c, hc', R⟩ := hF
  have fr := I.hok.fresh (Nat.le_refl s.heap.objs.size)
  exact ⟨.ref s.heap.objs.size, _, I.laid (t' := tk) hk (Nat.le_refl _) (setO_new R), rfl, q _ _ fr hc'⟩
end
/-- sorted(set(xs)), a list of less than 64 ints: from where set is called -/
theorem r_sortSetI {K : PySem.W.Frag} {w : World} {σ : St} {H : Hp} {Q : VK} {l : Addr} {ns : List Int} (hl : SqL K H l (ns.map V.int)) (hn : ns.length < 64)
    (k : ∀ (us : List Int) (p : Addr) (H' : Hp), us.Pairwise (· < ·) → (∀ k, k ∈ us ↔ k ∈ ns) → Same H H' → H p = none → H' p = some (.lst (us.map V.int)) → Q (.ref p) H') :
    rSetI K w [.ref l] H fun x H1 => tNil σ H1 fun xs H2 => rSortedSet w (x :: xs) H2 Q := by
  refine ⟨l, ns, rfl, hl, by omega, fun p c hp hc => ?_⟩
  refine r_nil ⟨p, _, c, rfl, upd_same, by omega, fun us p2 hu hk he h2 => ?_⟩
  have h3 : H p2 = none := by
    by_cases e : p2 = p
    · rw [e, upd_same] at h2; cases h2
    · rwa [upd_ne e] at h2
  exact k us p2 _ hu (fun z => by rw [hk]; simp) ((same_new hp).trans (same_new h2)) h3 upd_same
end CP

set_option Elab.async false
set_option linter.all false
set_option maxRecDepth 100000
set_option maxHeartbeats 4000000
set_option autoImplicit false
/-! calls with keywords alone; what a call with keywords binds -/
namespace CP
open L2 PySem PyProof.Rows

def tCallW (m : Nat) (sp : Sp) (gV : List V → List V) (E : XK) (tk : TA) : TE := fun σ H Q => tk σ H fun zs H2 => zs.length = m ∧ sp (gV zs) H2 Q E
/-- the keywords' values in the parameters' order -/
structure KB0 (K : PySem.W.Frag) (fd : FuncData) (ps ks : List Str) (g : List Value → List Value) (gV : List V → List V) : Prop where
  to : ∀ (s : Shared) (ws : List Value), K.In s.heap → ws.length = ks.length → BindsTo s fd ⟨[], ks.zip ws⟩ (ps.zip (g ws))
  rel : ∀ {zs : List V} {ws : List Value}, Vals zs ws → zs.length = ks.length → Vals (gV zs) (g ws)
section
variable {X : Cx} {CX : CXT} {k m : Nat} {f : Addr} {fd : FuncData} {ps ks : List Str} {sp : Sp} {E : XK} {x : Str} {p pos : Pos} {kws : List Keyword} {tk : TA} {g : List Value → List Value} {gV : List V → List V}
theorem pe_callW (F : FnOk X.prog X.w X.K X.mg X.base CX k f fd ps sp) (hr : Room k X.A) (hg : Gl X x) (hm : X.mg x = some (.ref f)) (hk : PySem.W.keepIn X.K (.ref f) = true) (hb : KB0 X.K fd ps ks g gV) (hx : Passes CX X E) (hkw : PK X kws tk)
    (hall : (backToKw pos (keywordEach kws X.env)).all (·.1.isSome) = true := by rfl) (hks : (backToKw pos (keywordEach kws X.env)).filterMap (·.1) = ks := by rfl) (hlen : ks.length = m := by rfl) (hdb : (x == ("__debug__" : Str)) = false := by decide)
    (hpl : ((backTo pos (starEach [] X.env)).any (·.1) || (backToKw pos (keywordEach kws X.env)).any (·.1.isNone)) = false := by rfl) :
    PE X (.Call (.Name x p) [] kws pos) (tCallW m sp gV E tk) := by
  subst hlen
  refine ⟨fun pins s σ H Q I h => ?_⟩
  refine wpAny_Call_Name_kw (ld_glob I hg hm ?_ hdb)
  refine PySem.W.callWith_KW0 (h₀ := X.base) I.ok.mod.kin hk hall (thn (hkw.run pos pins s σ H _ I h) fun ws s1 ⟨zs, H1, I1, r, l, q⟩ => ⟨I1.kIn, ?_⟩) hpl
  rw [hks]
  have lw : ws.length = ks.length := r.length.symm.trans l
  refine wpAny_call (codeAny_mono (F.run X.A X.stack s1 H1 ⟨[], ks.zip ws⟩ (g ws) (gV zs) Q E hr I1.env0 (hb.to s1 ws I1.kIn lw) (hb.rel r l) q) fun r s' hq => ?_)
  cases r with
  | error e => exact hx pins σ H1 s1 e s' I1 hq
  | ok fl =>
    cases fl with
    | ret u => exact I1.after hq
    | next => exact False.elim hq
    | brk => exact False.elim hq
    | cont => exact False.elim hq
end
/-- a def without defaults -/
theorem Fun.kb {K : PySem.W.Frag} {x qual : Str} {st : Stmt} {f : Addr} {fd : FuncData} {ps ks : List Str} {g : List Value → List Value} {gV : List V → List V} (F : Fun K x qual st f fd)
    (h : ∀ (kV doc pm : Value) (an : Option Addr) (cdv ct : Value) (ws : List Value), ws.length = ks.length → bindArgs (PySem.W.fnOf x qual (defArgs st) (defBody st) (defScope st) .none kV doc pm an cdv ct) ⟨[], ks.zip ws⟩ = pure (ps.zip (g ws)))
    (hr : ∀ {zs : List V} {ws : List Value}, Vals zs ws → zs.length = ks.length → Vals (gV zs) (g ws)) : KB0 K fd ps ks g gV := by
  obtain ⟨oc, od, kV, doc, pm, an, cdv, ct, osl, rfl, lk, hcd⟩ := F.ex
  exact ⟨fun s ws _ hl => .of_eq (h kV doc pm an cdv ct ws hl), hr⟩
/-- a def with defaults -/
theorem FunD.kb {K : PySem.W.Frag} {x qual : Str} {params : Arguments} {body : List Stmt} {scope : Scope} {dvs : List V} {f : Addr} {fd : FuncData} {ps ks : List Str} {g : List Value → List Value → List Value} {gV : List V → List V} (F : FunD K x qual params body scope dvs [] f fd) (hd : dvs ≠ [])
    (h : ∀ (T : Addr) (kV doc pm : Value) (an : Option Addr) (cdv ct : Value) (its ws : List Value), its.length = dvs.length → ws.length = ks.length →
      ∃ k, bindArgs (PySem.W.fnOf x qual params body scope (.ref T) kV doc pm an cdv ct) ⟨[], ks.zip ws⟩ = seqItems? (.ref T) >>= k ∧ k (some its.toArray) = pure (ps.zip (g its ws)))
    (hr : ∀ {its : List Value} {zs : List V} {ws : List Value}, Vals dvs its → Vals zs ws → zs.length = ks.length → Vals (gV zs) (g its ws)) : ∃ its, KB0 K fd ps ks (g its) gV := by
  obtain ⟨oc, od, dV, kV, doc, pm, an, cdv, ct, osl, rfl, lk, hcd, hD, hK⟩ := F.ex
  rcases hD with ⟨e, _⟩ | ⟨_, T, o, its, m, rfl, lT, oT, rT⟩
  · exact absurd e hd
  · refine ⟨its, fun s ws X hl => ?_, fun r l => hr rT r l⟩
    obtain ⟨k, e1, e2⟩ := h T kV doc pm an cdv ct its ws rT.length.symm hl
    refine BindsTo.of_looks fun M => ?_
    rw [e1]
    exact looks_items X lT oT (.of_pure e2)
section
variable {σ : L2.St} {H : Hp} {Q : VK} {m : Nat} {sp : Sp} {gV : List V → List V} {E : XK} {tk : TA}
theorem r_callW (q : tk σ H fun zs H2 => zs.length = m ∧ sp (gV zs) H2 Q E) : tCallW m sp gV E tk σ H Q := q
end
/-- positional values first, then keywords; no defaults -/
theorem Fun.kbn {K : PySem.W.Frag} {x qual : Str} {st : Stmt} {f : Addr} {fd : FuncData} {ps ks : List Str} {n : Nat} {g : List Value → List Value → List Value} {gV : List V → List V → List V} (F : Fun K x qual st f fd)
    (h : ∀ (kV doc pm : Value) (an : Option Addr) (cdv ct : Value) (us ws : List Value), us.length = n → ws.length = ks.length → bindArgs (PySem.W.fnOf x qual (defArgs st) (defBody st) (defScope st) .none kV doc pm an cdv ct) ⟨us, ks.zip ws⟩ = pure (ps.zip (g us ws)))
    (hr : ∀ {vs : List V} {us : List Value} {zs : List V} {ws : List Value}, Vals vs us → Vals zs ws → Vals (gV vs zs) (g us ws)) : KBn K fd ps n ks g gV := by
  obtain ⟨oc, od, kV, doc, pm, an, cdv, ct, osl, rfl, lk, hcd⟩ := F.ex
  exact ⟨fun s us ws _ l1 l2 => .of_eq (h kV doc pm an cdv ct us ws l1 l2), hr⟩
end CP

set_option Elab.async false
set_option linter.all false
set_option maxRecDepth 100000
set_option maxHeartbeats 4000000
set_option autoImplicit false
/-! comprehensions whose elements are told one by one, new objects among them -/
namespace CP
open L2 PySem PyProof.Rows
/-- the heap without one object -/
def hide (D : Addr) (H : Hp) : Hp := fun b => if b = D then none else H b
theorem hide_ne {D b : Addr} {H : Hp} (h : b ≠ D) : hide D H b = H b := if_neg h
theorem hide_same {D : Addr} {H : Hp} : Same (hide D H) H := fun b o h => by
  unfold hide at h
  split at h
  · cases h
  · exact h
theorem hide_upd {D : Addr} {H : Hp} {o : HO} : hide D (upd H D o) = hide D H := funext fun b => by
  unfold hide
  by_cases e : b = D
  · rw [if_pos e, if_pos e]
  · rw [if_neg e, if_neg e, upd_ne e]
theorem hide_mono {D : Addr} {H H' : Hp} (s : Same H H') : Same (hide D H) (hide D H') := fun b o h => by
  unfold hide at h ⊢
  by_cases e : b = D
  · rw [if_pos e] at h; cases h
  · rw [if_neg e] at h; rw [if_neg e]; exact s b o h
theorem hide_none {D : Addr} {H : Hp} (h : H D = none) : hide D H = H := funext fun b => by
  unfold hide
  by_cases e : b = D
  · rw [if_pos e, e, h]
  · rw [if_neg e]
theorem pd_mono {α β : Type} {R R' : α → β → Prop} {xs : List α} {ys : List β} (h : Paired R xs ys) (m : ∀ a b, R a b → R' a b) : Paired R' xs ys := by
  induction h with
  | nil => exact .nil
  | cons h _ ih => exact .cons (m _ _ h) ih
theorem pd_len {α β : Type} {R : α → β → Prop} {xs : List α} {ys : List β} (h : Paired R xs ys) : xs.length = ys.length := by
  induction h with
  | nil => rfl
  | cons _ _ ih => rw [List.length_cons, List.length_cons, ih]
theorem pd_app {α β : Type} {R : α → β → Prop} {xs xs' : List α} {ys ys' : List β} (h : Paired R xs ys) (h' : Paired R xs' ys') : Paired R (xs ++ xs') (ys ++ ys') := by
  induction h with
  | nil => exact h'
  | cons h _ ih => exact .cons h ih
theorem pd_one {α β : Type} {R : α → β → Prop} {x : α} {y : β} (h : R x y) : Paired R [x] [y] := .cons h .nil
theorem pd_get {α β : Type} {R : α → β → Prop} {xs : List α} {ys : List β} (h : Paired R xs ys) {i : Nat} {x : α} (e : xs[i]? = some x) : ∃ y, ys[i]? = some y ∧ R x y := by
  induction h generalizing i with
  | nil => cases e
  | cons h _ ih =>
    cases i with
    | zero => cases e; exact ⟨_, rfl, h⟩
    | succ i => exact ih (i := i) e
theorem pd_get' {α β : Type} {R : α → β → Prop} {xs : List α} {ys : List β} (h : Paired R xs ys) {i : Nat} {y : β} (e : ys[i]? = some y) : ∃ x, xs[i]? = some x ∧ R x y := by
  induction h generalizing i with
  | nil => cases e
  | cons h _ ih =>
    cases i with
    | zero => cases e; exact ⟨_, rfl, h⟩
    | succ i => exact ih (i := i) e
theorem pd_eq {α : Type} {xs ys : List α} (h : Paired (fun a b => a = b) xs ys) : xs = ys := by
  induction h with
  | nil => rfl
  | cons h _ ih => rw [h, ih]
theorem pd_map {α β γ : Type} {R : α → β → Prop} {f : γ → β} {xs : List α} {ys : List γ} (h : Paired (fun a c => R a (f c)) xs ys) : Paired R xs (ys.map f) := by
  induction h with
  | nil => exact .nil
  | cons h _ ih => exact .cons h ih
theorem same_seqT {K : PySem.W.Frag} {H H' : Hp} {a : Addr} {xs : List V} (s : Same H H') (h : SqT K H a xs) : SqT K H' a xs := by
  rcases h with (z | ⟨o, z⟩) | z
  · exact .inl (.inl (s _ _ z))
  · exact .inl (.inr ⟨o, s _ _ z⟩)
  · exact .inr z
section
variable {β : Type} {K : PySem.W.Frag} {a : Addr} {xs : List V} {g : TG} {tt : TT} {te : TE} {vs : List Nat} {σ : L2.St} {H1 : Hp} {D : Addr} {Qd : Hp → Prop}
/-- the state behind i turns -/
def Acc (R : Hp → V → β → Prop) (H1 : Hp) (D : Addr) (ys : List (Option β)) (i : Nat) (H : Hp) : Prop := Same H1 H ∧ ∃ acc, H D = some (.lst acc) ∧ Paired (R (hide D H)) acc ((ys.take i).filterMap id)
theorem acc_zero {R : Hp → V → β → Prop} {ys : List (Option β)} (hD : H1 D = none) : Acc R H1 D ys 0 (upd H1 D (.lst [])) := ⟨same_new hD, [], upd_same, by rw [List.take_zero]; exact .nil⟩
theorem acc_no {R : Hp → V → β → Prop} (mono : ∀ H H' v b, Same H H' → R H v b → R H' v b) {ys : List (Option β)} {i : Nat} {H H' : Hp} (p : Acc R H1 D ys i H) (h : ys[i]? = some none) (s : Same H H') : Acc R H1 D ys (i + 1) H' := by
  obtain ⟨s1, acc, e, pr⟩ := p
  refine ⟨s1.trans s, acc, CP.Same.to s e, ?_⟩
  rw [List.take_add_one, h]
  simp only [Option.toList_some, List.filterMap_append, List.filterMap_cons, id_eq, List.filterMap_nil, List.append_nil]
  exact pd_mono pr fun v b => mono _ _ v b (hide_mono s)
theorem acc_yes {R : Hp → V → β → Prop} (mono : ∀ H H' v b, Same H H' → R H v b → R H' v b) {ys : List (Option β)} {i : Nat} {z : β} {H H' : Hp} {y : V} (hD : H1 D = none) (hz : ys.length < sizeLine) (p : Acc R H1 D ys i H) (h : ys[i]? = some (some z)) (s : Same H H') (r : R (hide D H') y z) :
    ∃ acc, H' D = some (.lst acc) ∧ acc.length < sizeLine ∧ Acc R H1 D ys (i + 1) (upd H' D (.lst (acc ++ [y]))) := by
  obtain ⟨s1, acc, e, pr⟩ := p
  refine ⟨acc, CP.Same.to s e, ?_, CP.Same.sb (s1.trans s) hD sb_upd, acc ++ [y], upd_same, ?_⟩
  · rw [pd_len pr]
    refine Nat.lt_of_le_of_lt (List.length_filterMap_le ..) ?_
    rw [List.length_take]
    omega
  · rw [List.take_add_one, h, hide_upd]
    simp only [Option.toList_some, List.filterMap_append, List.filterMap_cons, id_eq, List.filterMap_nil]
    exact pd_app (pd_mono pr fun v b => mono _ _ v b (hide_mono s)) (pd_one r)
theorem acc_end {R : Hp → V → β → Prop} (mono : ∀ H H' v b, Same H H' → R H v b → R H' v b) {ys : List (Option β)} {H : Hp} (p : Acc R H1 D ys ys.length H) : Same H1 H ∧ ∃ acc, H D = some (.lst acc) ∧ Paired (R H) acc (ys.filterMap id) := by
  obtain ⟨s1, acc, e, pr⟩ := p
  rw [List.take_length] at pr
  exact ⟨s1, acc, e, pd_mono pr fun v b => mono _ _ v b hide_same⟩
/-- one turn: what has to be shown of it -/
def Turn (g : TG) (tt : TT) (te : TE) (vs : List Nat) (σ : L2.St) (R : Hp → V → β → Prop) (D : Addr) (H : Hp) (x : V) (o : Option β) : Prop :=
  ∀ N : Hp → Prop, (∀ H', o = none → Same H H' → N H') → (∀ H' y z, o = some z → Same H H' → R (hide D H') y z → ∃ acc, H' D = some (.lst acc) ∧ acc.length < sizeLine ∧ N (upd H' D (.lst (acc ++ [y])))) →
    g x (wipe σ vs) H fun σ2 H2 => wipe σ2 vs = wipe σ vs ∧ tt σ2 H2 fun b H3 => if b = true then te σ2 H3 fun y H4 => ∃ acc, H4 D = some (.lst acc) ∧ acc.length < sizeLine ∧ N (upd H4 D (.lst (acc ++ [y]))) else N H3
theorem turn_of {R : Hp → V → β → Prop} (mono : ∀ H H' v b, Same H H' → R H v b → R H' v b) {ys : List (Option β)} (hD : H1 D = none) (hz : ys.length < sizeLine) {i : Nat} {H : Hp} {x : V} {o : Option β} (p : Acc R H1 D ys i H) (h : ys[i]? = some o) (t : Turn g tt te vs σ R D H x o) :
    g x (wipe σ vs) H fun σ2 H2 => wipe σ2 vs = wipe σ vs ∧ tt σ2 H2 fun b H3 => if b = true then te σ2 H3 fun y H4 => ∃ acc, H4 D = some (.lst acc) ∧ acc.length < sizeLine ∧ Acc R H1 D ys (i + 1) (upd H4 D (.lst (acc ++ [y]))) else Acc R H1 D ys (i + 1) H3 :=
  t _ (fun H' e s => acc_no mono p (by rw [h, e]) s) fun H' y z e s r => acc_yes mono hD hz p (by rw [h, e]) s r
/-- over a list that stands -/
theorem lc_tell (R : Hp → V → β → Prop) (ys : List (Option β)) (hD : H1 D = none) (ha : SqL K H1 a xs) (hl : xs.length = ys.length) (hz : ys.length < sizeLine) (mono : ∀ H H' v b, Same H H' → R H v b → R H' v b)
    (hs : ∀ (i : Nat) (x : V) (o : Option β) (H : Hp), xs[i]? = some x → ys[i]? = some o → Same H1 H → (∃ acc, H D = some (.lst acc)) → Turn g tt te vs σ R D H x o)
    (hd : ∀ H acc, Same H1 H → H D = some (.lst acc) → Paired (R H) acc (ys.filterMap id) → Qd H) :
    ∃ W : Nat → Nat → Hp → Prop, (∃ m, W 0 m (upd H1 D (.lst []))) ∧ ∀ i m H, W i m H →
      ((Itl K a).stop i H ∧ Qd H) ∨ ((Itl K a).go i H ∧ ∃ Nx : Hp → Prop, (∀ H', Nx H' → ∃ m', m' < m ∧ W (i + 1) m' H') ∧ ∀ x H', (Itl K a).yld i H x H' → g x (wipe σ vs) H' fun σ2 H2 => wipe σ2 vs = wipe σ vs ∧ tt σ2 H2 fun b H3 =>
        if b = true then te σ2 H3 fun y H4 => ∃ acc, H4 D = some (.lst acc) ∧ acc.length < sizeLine ∧ Nx (upd H4 D (.lst (acc ++ [y]))) else Nx H3) := by
  refine lc_list (K := K) (a := a) (xs := xs) (Acc R H1 D ys) (acc_zero hD) (fun i H _ w => L2.Same.seq w.1 ha) (fun i x H hx p => ?_) fun H p => ?_
  · have hi : i < ys.length := by rw [← hl]; exact (List.getElem?_eq_some_iff.mp hx).1
    exact turn_of mono hD hz p (List.getElem?_eq_getElem hi) (hs i x _ H hx (List.getElem?_eq_getElem hi) p.1 (p.2.imp fun _ z => z.1))
  · rw [hl] at p
    obtain ⟨s, acc, e, pr⟩ := acc_end mono p
    exact hd H acc s e pr
theorem lc_tellT (R : Hp → V → β → Prop) (ys : List (Option β)) (hD : H1 D = none) (ha : SqT K H1 a xs) (hl : xs.length = ys.length) (hz : ys.length < sizeLine) (mono : ∀ H H' v b, Same H H' → R H v b → R H' v b)
    (hs : ∀ (i : Nat) (x : V) (o : Option β) (H : Hp), xs[i]? = some x → ys[i]? = some o → Same H1 H → (∃ acc, H D = some (.lst acc)) → Turn g tt te vs σ R D H x o)
    (hd : ∀ H acc, Same H1 H → H D = some (.lst acc) → Paired (R H) acc (ys.filterMap id) → Qd H) :
    ∃ W : Nat → Nat → Hp → Prop, (∃ m, W 0 m (upd H1 D (.lst []))) ∧ ∀ i m H, W i m H →
      ((Itt K a).stop i H ∧ Qd H) ∨ ((Itt K a).go i H ∧ ∃ Nx : Hp → Prop, (∀ H', Nx H' → ∃ m', m' < m ∧ W (i + 1) m' H') ∧ ∀ x H', (Itt K a).yld i H x H' → g x (wipe σ vs) H' fun σ2 H2 => wipe σ2 vs = wipe σ vs ∧ tt σ2 H2 fun b H3 =>
        if b = true then te σ2 H3 fun y H4 => ∃ acc, H4 D = some (.lst acc) ∧ acc.length < sizeLine ∧ Nx (upd H4 D (.lst (acc ++ [y]))) else Nx H3) := by
  refine lc_tup (K := K) (a := a) (xs := xs) (Acc R H1 D ys) (acc_zero hD) (fun i H _ w => same_seqT w.1 ha) (fun i x H hx p => ?_) fun H p => ?_
  · have hi : i < ys.length := by rw [← hl]; exact (List.getElem?_eq_some_iff.mp hx).1
    exact turn_of mono hD hz p (List.getElem?_eq_getElem hi) (hs i x _ H hx (List.getElem?_eq_getElem hi) p.1 (p.2.imp fun _ z => z.1))
  · rw [hl] at p
    obtain ⟨s, acc, e, pr⟩ := acc_end mono p
    exact hd H acc s e pr
theorem lc_tellR {lo : Int} {n : Nat} (R : Hp → V → β → Prop) (ys : List (Option β)) (hD : H1 D = none) (hl : n = ys.length) (hz : ys.length < sizeLine) (mono : ∀ H H' v b, Same H H' → R H v b → R H' v b)
    (hs : ∀ (i : Nat) (o : Option β) (H : Hp), i < n → ys[i]? = some o → Same H1 H → (∃ acc, H D = some (.lst acc)) → Turn g tt te vs σ R D H (.int (lo + i)) o)
    (hd : ∀ H acc, Same H1 H → H D = some (.lst acc) → Paired (R H) acc (ys.filterMap id) → Qd H) :
    ∃ W : Nat → Nat → Hp → Prop, (∃ m, W 0 m (upd H1 D (.lst []))) ∧ ∀ i m H, W i m H →
      ((Itr lo n).stop i H ∧ Qd H) ∨ ((Itr lo n).go i H ∧ ∃ Nx : Hp → Prop, (∀ H', Nx H' → ∃ m', m' < m ∧ W (i + 1) m' H') ∧ ∀ x H', (Itr lo n).yld i H x H' → g x (wipe σ vs) H' fun σ2 H2 => wipe σ2 vs = wipe σ vs ∧ tt σ2 H2 fun b H3 =>
        if b = true then te σ2 H3 fun y H4 => ∃ acc, H4 D = some (.lst acc) ∧ acc.length < sizeLine ∧ Nx (upd H4 D (.lst (acc ++ [y]))) else Nx H3) := by
  refine lc_range (Acc R H1 D ys) (acc_zero hD) (fun i H hi p => ?_) fun H p => ?_
  · have hi' : i < ys.length := by rw [← hl]; exact hi
    exact turn_of mono hD hz p (List.getElem?_eq_getElem hi') (hs i _ H hi (List.getElem?_eq_getElem hi') p.1 (p.2.imp fun _ z => z.1))
  · rw [hl] at p
    obtain ⟨s, acc, e, pr⟩ := acc_end mono p
    exact hd H acc s e pr
/-- over a text -/
theorem lc_tellS {z : Str} (R : Hp → V → β → Prop) (ys : List (Option β)) (hD : H1 D = none) (hl : z.cps.size = ys.length) (hz : ys.length < sizeLine) (mono : ∀ H H' v b, Same H H' → R H v b → R H' v b)
    (hs : ∀ (i : Nat) (c : Nat) (o : Option β) (H : Hp), z.cps[i]? = some c → ys[i]? = some o → Same H1 H → (∃ acc, H D = some (.lst acc)) → Turn g tt te vs σ R D H (.str ⟨#[c]⟩) o)
    (hd : ∀ H acc, Same H1 H → H D = some (.lst acc) → Paired (R H) acc (ys.filterMap id) → Qd H) :
    ∃ W : Nat → Nat → Hp → Prop, (∃ m, W 0 m (upd H1 D (.lst []))) ∧ ∀ i m H, W i m H →
      ((Its z).stop i H ∧ Qd H) ∨ ((Its z).go i H ∧ ∃ Nx : Hp → Prop, (∀ H', Nx H' → ∃ m', m' < m ∧ W (i + 1) m' H') ∧ ∀ x H', (Its z).yld i H x H' → g x (wipe σ vs) H' fun σ2 H2 => wipe σ2 vs = wipe σ vs ∧ tt σ2 H2 fun b H3 =>
        if b = true then te σ2 H3 fun y H4 => ∃ acc, H4 D = some (.lst acc) ∧ acc.length < sizeLine ∧ Nx (upd H4 D (.lst (acc ++ [y]))) else Nx H3) := by
  refine ⟨fun i m H => m = ys.length - i ∧ i ≤ ys.length ∧ Acc R H1 D ys i H, ⟨ys.length, by simp, Nat.zero_le _, acc_zero hD⟩, ?_⟩
  rintro i m H ⟨rfl, hi, p⟩
  by_cases lt : i < ys.length
  · refine .inr ⟨(by rw [hl]; exact lt : i < z.cps.size), Acc R H1 D ys (i + 1), fun H' p' => ⟨ys.length - (i + 1), by omega, rfl, lt, p'⟩, fun x H' y => ?_⟩
    obtain ⟨rfl, c, hc, rfl⟩ := y
    exact turn_of mono hD hz p (List.getElem?_eq_getElem lt) (hs i c _ _ hc (List.getElem?_eq_getElem lt) p.1 (p.2.imp fun _ z => z.1))
  · have e : i = ys.length := by omega
    subst e
    obtain ⟨s, acc, e, pr⟩ := acc_end mono p
    exact .inl ⟨(by rw [hl]; exact Nat.le_refl _ : z.cps.size ≤ ys.length), hd H acc s e pr⟩
theorem lc_noneL {xs : List V} (hD : H1 D = none) (ha : SqL K H1 a xs) (hz : xs.length < sizeLine)
    (hs : ∀ (i : Nat) (x : V) (H : Hp), xs[i]? = some x → Same H1 H → Turn (β := V) g tt te vs σ (fun _ x b => x = b) D H x none) (hd : ∀ H, Same H1 H → H D = some (.lst []) → Qd H) :
    ∃ W : Nat → Nat → Hp → Prop, (∃ m, W 0 m (upd H1 D (.lst []))) ∧ ∀ i m H, W i m H →
      ((Itl K a).stop i H ∧ Qd H) ∨ ((Itl K a).go i H ∧ ∃ Nx : Hp → Prop, (∀ H', Nx H' → ∃ m', m' < m ∧ W (i + 1) m' H') ∧ ∀ x H', (Itl K a).yld i H x H' → g x (wipe σ vs) H' fun σ2 H2 => wipe σ2 vs = wipe σ vs ∧ tt σ2 H2 fun b H3 =>
        if b = true then te σ2 H3 fun y H4 => ∃ acc, H4 D = some (.lst acc) ∧ acc.length < sizeLine ∧ Nx (upd H4 D (.lst (acc ++ [y]))) else Nx H3) := by
  refine lc_tell (β := V) (fun _ x b => x = b) (xs.map fun _ => none) hD ha (by rw [List.length_map]) (by rw [List.length_map]; exact hz) (fun _ _ _ _ _ z => z) (fun i x o H hx ho s1 _ => ?_) fun H acc s1 hacc pp => ?_
  · have e : o = none := by
      rw [List.getElem?_map, hx] at ho
      exact (Option.some.inj ho).symm
    subst e
    exact hs i x H hx s1
  · have e : acc = [] := by
      rw [pd_eq pp]
      clear pp hs hz ha
      induction xs with
      | nil => rfl
      | cons _ xs ih => exact ih
    subst e
    exact hd H s1 hacc
theorem lc_valsL {xs : List V} (ys : List V) (hD : H1 D = none) (ha : SqL K H1 a xs) (hl : xs.length = ys.length) (hz : ys.length < sizeLine)
    (hs : ∀ (i : Nat) (x y : V) (H : Hp), xs[i]? = some x → ys[i]? = some y → Same H1 H → Turn (β := V) g tt te vs σ (fun _ x b => x = b) D H x (some y)) (hd : ∀ H, Same H1 H → H D = some (.lst ys) → Qd H) :
    ∃ W : Nat → Nat → Hp → Prop, (∃ m, W 0 m (upd H1 D (.lst []))) ∧ ∀ i m H, W i m H →
      ((Itl K a).stop i H ∧ Qd H) ∨ ((Itl K a).go i H ∧ ∃ Nx : Hp → Prop, (∀ H', Nx H' → ∃ m', m' < m ∧ W (i + 1) m' H') ∧ ∀ x H', (Itl K a).yld i H x H' → g x (wipe σ vs) H' fun σ2 H2 => wipe σ2 vs = wipe σ vs ∧ tt σ2 H2 fun b H3 =>
        if b = true then te σ2 H3 fun y H4 => ∃ acc, H4 D = some (.lst acc) ∧ acc.length < sizeLine ∧ Nx (upd H4 D (.lst (acc ++ [y]))) else Nx H3) := by
  refine lc_tell (β := V) (fun _ x b => x = b) (ys.map some) hD ha (by rw [List.length_map]; exact hl) (by rw [List.length_map]; exact hz) (fun _ _ _ _ _ z => z) (fun i x o H hx ho s1 _ => ?_) fun H acc s1 hacc pp => ?_
  · rw [List.getElem?_map] at ho
    cases ey : ys[i]? with
    | none => rw [ey] at ho; cases ho
    | some y =>
      rw [ey] at ho
      cases ho
      exact hs i x y H hx ey s1
  · have e : acc = ys := by
      rw [pd_eq pp, List.filterMap_map]
      exact List.filterMap_some
    subst e
    exact hd H s1 hacc
theorem lc_noneT {xs : List V} (hD : H1 D = none) (ha : SqT K H1 a xs) (hz : xs.length < sizeLine)
    (hs : ∀ (i : Nat) (x : V) (H : Hp), xs[i]? = some x → Same H1 H → Turn (β := V) g tt te vs σ (fun _ x b => x = b) D H x none) (hd : ∀ H, Same H1 H → H D = some (.lst []) → Qd H) :
    ∃ W : Nat → Nat → Hp → Prop, (∃ m, W 0 m (upd H1 D (.lst []))) ∧ ∀ i m H, W i m H →
      ((Itt K a).stop i H ∧ Qd H) ∨ ((Itt K a).go i H ∧ ∃ Nx : Hp → Prop, (∀ H', Nx H' → ∃ m', m' < m ∧ W (i + 1) m' H') ∧ ∀ x H', (Itt K a).yld i H x H' → g x (wipe σ vs) H' fun σ2 H2 => wipe σ2 vs = wipe σ vs ∧ tt σ2 H2 fun b H3 =>
        if b = true then te σ2 H3 fun y H4 => ∃ acc, H4 D = some (.lst acc) ∧ acc.length < sizeLine ∧ Nx (upd H4 D (.lst (acc ++ [y]))) else Nx H3) := by
  refine lc_tellT (β := V) (fun _ x b => x = b) (xs.map fun _ => none) hD ha (by rw [List.length_map]) (by rw [List.length_map]; exact hz) (fun _ _ _ _ _ z => z) (fun i x o H hx ho s1 _ => ?_) fun H acc s1 hacc pp => ?_
  · have e : o = none := by
      rw [List.getElem?_map, hx] at ho
      exact (Option.some.inj ho).symm
    subst e
    exact hs i x H hx s1
  · have e : acc = [] := by
      rw [pd_eq pp]
      clear pp hs hz ha
      induction xs with
      | nil => rfl
      | cons _ xs ih => exact ih
    subst e
    exact hd H s1 hacc
theorem lc_valsT {xs : List V} (ys : List V) (hD : H1 D = none) (ha : SqT K H1 a xs) (hl : xs.length = ys.length) (hz : ys.length < sizeLine)
    (hs : ∀ (i : Nat) (x y : V) (H : Hp), xs[i]? = some x → ys[i]? = some y → Same H1 H → Turn (β := V) g tt te vs σ (fun _ x b => x = b) D H x (some y)) (hd : ∀ H, Same H1 H → H D = some (.lst ys) → Qd H) :
    ∃ W : Nat → Nat → Hp → Prop, (∃ m, W 0 m (upd H1 D (.lst []))) ∧ ∀ i m H, W i m H →
      ((Itt K a).stop i H ∧ Qd H) ∨ ((Itt K a).go i H ∧ ∃ Nx : Hp → Prop, (∀ H', Nx H' → ∃ m', m' < m ∧ W (i + 1) m' H') ∧ ∀ x H', (Itt K a).yld i H x H' → g x (wipe σ vs) H' fun σ2 H2 => wipe σ2 vs = wipe σ vs ∧ tt σ2 H2 fun b H3 =>
        if b = true then te σ2 H3 fun y H4 => ∃ acc, H4 D = some (.lst acc) ∧ acc.length < sizeLine ∧ Nx (upd H4 D (.lst (acc ++ [y]))) else Nx H3) := by
  refine lc_tellT (β := V) (fun _ x b => x = b) (ys.map some) hD ha (by rw [List.length_map]; exact hl) (by rw [List.length_map]; exact hz) (fun _ _ _ _ _ z => z) (fun i x o H hx ho s1 _ => ?_) fun H acc s1 hacc pp => ?_
  · rw [List.getElem?_map] at ho
    cases ey : ys[i]? with
    | none => rw [ey] at ho; cases ho
    | some y =>
      rw [ey] at ho
      cases ho
      exact hs i x y H hx ey s1
  · have e : acc = ys := by
      rw [pd_eq pp, List.filterMap_map]
      exact List.filterMap_some
    subst e
    exact hd H s1 hacc
theorem r_yes {σ : L2.St} {H : Hp} {Q : Bool → Hp → Prop} (q : Q true H) : tYes σ H Q := q
end
end CP

set_option Elab.async false
set_option linter.all false
set_option maxRecDepth 100000
set_option maxHeartbeats 4000000
set_option autoImplicit false
/-! dicts whose keys are numbers and texts: one step at a time -/
namespace CP
open L2 PySem PyProof.Rows
section
variable {K : PySem.W.Frag} {σ : L2.St} {H : Hp} {Q : VK} {d : Addr} {kvs : List (Key × V)} {v : V} {i : Int} {z : Str} {td ty tv : TE}
theorem r_tdni (q : ty σ H fun y H1 => td σ H1 fun x H2 => ∃ a o, x = .ref a ∧ DGet H2 a y o ∧ Q (.bl (!o.isSome)) H2) : tDNotIn ty td σ H Q := q
theorem r_tdin (q : ty σ H fun y H1 => td σ H1 fun x H2 => ∃ a o, x = .ref a ∧ DGet H2 a y o ∧ Q (.bl o.isSome) H2) : tDIn ty td σ H Q := q
theorem r_tdget (q : td σ H fun x H1 => ty σ H1 fun y H2 => ∃ a v, x = .ref a ∧ DGet H2 a y (some v) ∧ Q v H2) : tDGet td ty σ H Q := q
theorem r_lookI {P : Option V → Prop} (h : H d = some (.dK kvs)) (q : P (valV kvs (Sum.inl i))) : ∃ a o, V.ref d = .ref a ∧ DGet H a (.int i) o ∧ P o := ⟨d, _, rfl, DGet.k (k := Sum.inl i) h, q⟩
theorem r_lookS {P : Option V → Prop} (h : H d = some (.dK kvs)) (q : P (valV kvs (Sum.inr z))) : ∃ a o, V.ref d = .ref a ∧ DGet H a (.str z) o ∧ P o := ⟨d, _, rfl, DGet.k (k := Sum.inr z) h, q⟩
theorem r_dgetI {P : V → Prop} (h : H d = some (.dK kvs)) (e : valV kvs (Sum.inl i) = some v) (q : P v) : ∃ a v, V.ref d = .ref a ∧ DGet H a (.int i) (some v) ∧ P v := ⟨d, v, rfl, e ▸ DGet.k (k := Sum.inl i) h, q⟩
theorem r_dgetS {P : V → Prop} (h : H d = some (.dK kvs)) (e : valV kvs (Sum.inr z) = some v) (q : P v) : ∃ a v, V.ref d = .ref a ∧ DGet H a (.str z) (some v) ∧ P v := ⟨d, v, rfl, e ▸ DGet.k (k := Sum.inr z) h, q⟩
theorem r_dget2I {P : Option V → Prop} (h : H d = some (.dK kvs)) (q : P (valV kvs (Sum.inl i))) : ∃ o, DGet H d (.int i) o ∧ P o := ⟨_, DGet.k (k := Sum.inl i) h, q⟩
theorem r_dget2S {P : Option V → Prop} (h : H d = some (.dK kvs)) (q : P (valV kvs (Sum.inr z))) : ∃ o, DGet H d (.str z) o ∧ P o := ⟨_, DGet.k (k := Sum.inr z) h, q⟩
theorem r_isD {P : Addr → Prop} (h : H d = some (.dK kvs)) (q : P d) : ∃ a, V.ref d = .ref a ∧ IsD H a ∧ P a := ⟨d, rfl, .inl ⟨_, .inl h⟩, q⟩
theorem r_dputI {N : Hp → Prop} (h : H d = some (.dK kvs)) (l : kvs.length < sizeLine) (q : ∀ H', SB d H H' → H' d = some (.dK (putK kvs (Sum.inl i) v)) → N H') : ∃ a H', V.ref d = .ref a ∧ DPut H a (.int i) v H' ∧ N H' :=
  ⟨d, _, rfl, .inl ⟨kvs, Sum.inl i, h, rfl, l, rfl⟩, q _ sb_upd upd_same⟩
theorem r_dputS {N : Hp → Prop} (h : H d = some (.dK kvs)) (l : kvs.length < sizeLine) (q : ∀ H', SB d H H' → H' d = some (.dK (putK kvs (Sum.inr z) v)) → N H') : ∃ a H', V.ref d = .ref a ∧ DPut H a (.str z) v H' ∧ N H' :=
  ⟨d, _, rfl, .inl ⟨kvs, Sum.inr z, h, rfl, l, rfl⟩, q _ sb_upd upd_same⟩
theorem r_lenD (h : H d = some (.dK kvs)) (q : Q (.int kvs.length) H) : ∃ a kvs', V.ref d = .ref a ∧ H a = some (.dK kvs') ∧ Q (.int kvs'.length) H := ⟨d, kvs, rfl, h, q⟩
end
end CP

set_option Elab.async false
set_option linter.all false
set_option maxRecDepth 100000
set_option maxHeartbeats 4000000
/-! sets of texts: made of a list, sorted -/
namespace CP
open PySem L2 PySem.Spec PyProof.Rows
def txtOf (e : Int × Value) : Str := match e.2 with | .str x _ => x | _ => Str.empty
def TxtE (w : World) (e : Int × Value) : Prop := ∃ x tk, e.2 = Value.str x tk ∧ e.1 = hashStr w x
abbrev tkd (P : Program) (w : World) := PySem.strKind P w
/-- the set of texts at a: T its members, n how many; its table can be walked -/
def SetT (w : World) (h : Heap) (a : Addr) (T : Str → Bool) (n : Nat) : Prop :=
  ∃ o es ep tb, h.get? a = some o ∧ o.ExactSet ∧ o.data = .set es ep tb ∧ (∀ e ∈ es.toList, TxtE w e) ∧ (es.toList.map txtOf).Nodup ∧ (∀ x, T x = true ↔ x ∈ es.toList.map txtOf) ∧
    es.size < scanBound ∧ tb.fits es.size = true ∧ es.size = n ∧ Ris tb.place.toList ∧ (w.params.followText "set-order" = true ∨ tb.led = true)
section
variable {P : Program} {w : World} {h h' : Heap} {a : Addr} {T : Str → Bool} {n : Nat}
theorem SetT.there (R : SetT w h a T n) (k : ∀ o, h.get? a = some o → h'.get? a = some o) : SetT w h' a T n := by
  obtain ⟨o, es, ep, tb, got, more⟩ := R
  exact ⟨o, es, ep, tb, k o got, more⟩
theorem SetT.same {T' : Str → Bool} (R : SetT w h a T n) (e : ∀ x, T' x = T x) : SetT w h a T' n := (funext e : T' = T) ▸ R
theorem txt_elems {l : List (Int × Value)} (g : ∀ e ∈ l, TxtE w e) : ElemsOf (tkd P w) l := fun e he => by
  obtain ⟨x, tk, h1, h2⟩ := g e he
  exact ⟨⟨x, by rw [h1]; exact strKind_is P w x tk, h2⟩, by rw [h1] <;> rfl⟩
theorem txt_is {e : Int × Value} (g : TxtE w e) (x : Str) : (tkd P w).is x e.2 = true ↔ txtOf e = x := by
  obtain ⟨y, tk, h1, _⟩ := g
  unfold txtOf
  rw [h1]
  show ((y == x) = true) ↔ y = x
  exact beq_iff_eq
theorem txt_mem {l : List (Int × Value)} (g : ∀ e ∈ l, TxtE w e) (x : Str) : x ∈ l.map txtOf ↔ ∃ e ∈ l, (tkd P w).is x e.2 = true := by
  rw [List.mem_map]
  exact ⟨fun ⟨e, he, q⟩ => ⟨e, he, (txt_is (g e he) x).2 q⟩, fun ⟨e, he, q⟩ => ⟨e, he, (txt_is (g e he) x).1 q⟩⟩
end
section
variable {P : Program} {w : World} {A : Around} {E : Value → Shared → Prop} {s : Shared} {a : Addr} {T : Str → Bool} {n : Nat}
theorem tail_txt {gv : Bool → Sem Unit} (hgv : ∀ (b : Bool) (t : Shared) (J : Unit → Shared → Prop), J () t → wpAny (model P w) A (gv b) J E t)
    {o : Obj} {es : Array (Int × Value)} {ep : Nat} {tb : SetTable} (got : s.heap.get? a = some o) (ex : o.ExactSet) (dat : o.data = .set es ep tb)
    {fs : Array (Int × Value)} {tc : SetTable} {T' : Str → Bool} (ent : ∀ e ∈ fs.toList, TxtE w e) (dis : (fs.toList.map txtOf).Nodup) (mem : ∀ x, T' x = true ↔ x ∈ fs.toList.map txtOf)
    (below : fs.size < scanBound) (fit : tc.fits fs.size = true) (ris : Ris tc.place.toList) (led : w.params.followText "set-order" = true ∨ tc.led = true) {dum : Bool} {R : Option Bool → Shared → Prop}
    (fin : ∀ h', Heap.SameBut a s.heap h' → SetT w h' a T' fs.size → R (some true) { s with heap := h' }) :
    wpAny (model P w) A (do
        storeSet a fs tc
        if (!dum && tc.tooFull) = true then do
            gv (relayAll tc fs (SetTable.grown fs.size)).2.2
            storeSet a (relayAll tc fs (SetTable.grown fs.size)).1 (relayAll tc fs (SetTable.grown fs.size)).2.1
            pure (some true)
          else pure (some true)) R E s := by
  refine wpAny_bind (wpAny_storeSet_of got dat ?_ (fits_of_scanBound below))
  have got1 := store_at (es' := fs) (t' := tc) got dat
  have but1 := Heap.SameBut.update s.heap a (Obj.putSet fs tc)
  split
  · have z1 := relayAll_perm tc fs (SetTable.grown fs.size)
    have z2 := relayAll_fits tc fs (SetTable.grown fs.size)
    have z3 := relayAll_ris tc fs (SetTable.grown fs.size)
    have z4 := relayAll_led tc fs (SetTable.grown fs.size)
    generalize relayAll tc fs (SetTable.grown fs.size) = W at z1 z2 z3 z4 ⊢
    obtain ⟨gs, td, gave⟩ := W
    dsimp only at z1 z2 z3 z4 ⊢
    have size : gs.size = fs.size := by rw [← Array.length_toList, z1.length_eq, Array.length_toList]
    refine wpAny_bind (hgv _ _ _ ?_)
    refine wpAny_bind (wpAny_storeSet_of got1 rfl ?_ (fits_of_scanBound (by rw [size]; exact below)))
    have got2 := store_at (es' := gs) (t' := td) got1 rfl
    refine wpAny_pure (fin _ (but1.trans (Heap.SameBut.update _ a _)) ⟨_, gs, _, td, got2, ex, rfl, fun e he => ent e (z1.mem_iff.mp he), (z1.map txtOf).nodup_iff.mpr dis, fun x => (mem x).trans (z1.map txtOf).mem_iff.symm, by rw [size]; exact below, z2, size, z3, ?_⟩)
    exact led.imp id fun y => by rw [z4]; exact y
  · exact wpAny_pure (fin _ but1 ⟨_, fs, _, tc, got1, ex, rfl, ent, dis, mem, below, fit, rfl, ris, led⟩)
theorem add_txt {x : Str} {tk : Tok} {Q : Bool → Shared → Prop} (R : SetT w s.heap a T n) (room : n + 1 < scanBound)
    (q : ∀ h', Heap.SameBut a s.heap h' → SetT w h' a (fun y => T y || decide (y = x)) (if T x = true then n else n + 1) → Q (!T x) { s with heap := h' }) :
    wpAny (model P w) A (setAddHashed a (.str x tk) ((tkd P w).hash x)) Q E s := by
  obtain ⟨o, es, ep, tb, got, ex, dat, ent, dis, mem, below, fit, num, ris, led⟩ := R
  have key : (tkd P w).is x (.str x tk) = true := strKind_is P w x tk
  have sca : (Value.str x tk).scannable = true := rfl
  have els : ElemsOf (tkd P w) es.toList := txt_elems ent
  unfold setAddHashed; unfold setAddHashedIn
  refine wpAny_holding (wpAny_bind (wpAny_setState_of got dat fit ?_))
  dsimp only
  rw [byScan_of sca below els]
  simp only [↓reduceIte]
  unfold setAddByScan
  refine wpAny_bind (wpAny_bind (wpAny_rule ?_))
  refine wpAny_bind (wpAny_setScan_of key got dat fit els ?_)
  cases fi : List.findIdx? (fun e => (tkd P w).is x e.2) es.toList with
  | some j =>
    dsimp only
    obtain ⟨hj, pj, _⟩ := List.findIdx?_eq_some_iff_getElem.mp fi
    have yes : T x = true := (mem x).2 ((txt_mem (P := P) (w := w) ent x).2 ⟨es.toList[j], List.getElem_mem hj, pj⟩)
    have r := q s.heap (Heap.SameBut.refl a s.heap) ⟨o, es, ep, tb, got, ex, dat, ent, dis, fun y => by
      rw [Bool.or_eq_true, decide_eq_true_eq, ← mem y]
      exact ⟨fun z => z.elim id (fun e => e ▸ yes), .inl⟩, below, fit, by rw [if_pos yes]; exact num, ris, led⟩
    rw [yes] at r
    exact wpAny_pure (wpAny_pure r)
  | none =>
    dsimp only
    have absent : x ∉ es.toList.map txtOf := fun z => by
      obtain ⟨e, he, y⟩ := (txt_mem (P := P) (w := w) ent x).1 z
      have c := List.findIdx?_eq_none_iff.mp fi e he
      rw [y] at c
      cases c
    have no : T x = false := Bool.eq_false_iff.mpr fun z => absent ((mem x).1 z)
    have gw : ∀ (b : Bool) {t : Shared} {J : Unit → Shared → Prop}, J () t → wpAny (model P w) A (match b with | true => rule "set.scan.the-table-gave-way" | false => pure ()) J E t :=
      fun b t J j => by cases b <;> first | exact wpAny_pure j | exact wpAny_rule j
    have z1 := layNew_perm tb es ((tkd P w).hash x) (.str x tk)
    have z2 := layNew_fits tb es ((tkd P w).hash x) (.str x tk)
    have z3 := layNew_ris tb es ((tkd P w).hash x) (.str x tk) ris
    have z4 := layNew_led tb es ((tkd P w).hash x) (.str x tk)
    generalize layNew tb es ((tkd P w).hash x) (.str x tk) = W at z1 z2 z3 z4 ⊢
    obtain ⟨fs, tc, dum, gave⟩ := W
    dsimp only at z1 z2 z3 z4 ⊢
    rw [Array.toList_push] at z1
    have pc : fs.toList.Perm (((tkd P w).hash x, Value.str x tk) :: es.toList) := z1.trans (List.perm_append_singleton _ _)
    have pk : (fs.toList.map txtOf).Perm (x :: es.toList.map txtOf) := pc.map txtOf
    have ent1 : ∀ e ∈ fs.toList, TxtE w e := fun e he => (List.mem_cons.mp (pc.mem_iff.mp he)).elim (fun z => z ▸ ⟨x, tk, rfl, rfl⟩) (ent e)
    have dis1 : (fs.toList.map txtOf).Nodup := pk.nodup_iff.mpr (List.nodup_cons.mpr ⟨absent, dis⟩)
    have mem1 : ∀ y, (T y || decide (y = x)) = true ↔ y ∈ fs.toList.map txtOf := fun y => by
      rw [Bool.or_eq_true, decide_eq_true_eq, mem y, pk.mem_iff, List.mem_cons]
      exact Or.comm
    have size : fs.size = n + 1 := by rw [← Array.length_toList, pc.length_eq, List.length_cons, Array.length_toList, num]
    have below1 : fs.size < scanBound := by rw [size]; exact room
    have led1 : w.params.followText "set-order" = true ∨ tc.led = true := led.imp id fun z => by rw [z4]; exact z
    have fin : ∀ h', Heap.SameBut a s.heap h' → SetT w h' a (fun y => T y || decide (y = x)) fs.size → Q true { s with heap := h' } := fun h' sb r => by
      have j := q h' sb
      rw [no] at j
      rw [size] at r
      exact j r
    refine wpAny_bind (gw _ ?_)
    split
    · refine wpAny_bind ?_
      rw [hashByValue_scannable 8 sca]
      refine wpAny_pure (tail_txt ?_ got ex dat ent1 dis1 mem1 below1 ?_ ?_ ?_ ?_)
      · intro b t J j; cases b <;> first | exact wpAny_pure j | exact wpAny_rule j
      · first | (split <;> first | exact z2 | exact SetTable.fits_plain_off z2) | exact z2
      · first | (split <;> exact z3) | exact z3
      · first | (split <;> exact led1) | exact led1
      · intro h' sb r; dsimp only; exact wpAny_pure (fin h' sb r)
    · refine wpAny_bind (wpAny_pure ?_)
      simp only [↓reduceIte]
      refine tail_txt ?_ got ex dat ent1 dis1 mem1 below1 z2 z3 led1 ?_
      · intro b t J j; cases b <;> first | exact wpAny_pure j | exact wpAny_rule j
      · intro h' sb r; dsimp only; exact wpAny_pure (fin h' sb r)
theorem setT_new {h : Heap} {xs : List Str} (got : h.get? a = some (set0 w)) : SetT w h a (fun y => decide (y ∈ xs.take 0)) 0 :=
  ⟨_, #[], 0, _, got, ⟨rfl, rfl, rfl⟩, rfl, (fun e he => by simp at he), (by simp), (fun k => by simp), (by decide), (by rfl), rfl, List.Pairwise.nil, by
    show _ ∨ (!w.params.followText "set-order") = true
    cases w.params.followText "set-order"
    · exact .inr rfl
    · exact .inl rfl⟩
theorem update_txts {I : Addr} {fp wr : List Addr} {G : Array GenState → Array GenState → Prop} {n : Nat} {Pv : Nat → Value → Prop} {St : Nat → Shared → Prop} {R : Result → Shared → Prop}
    (W : WalksS P w A.in1 I fp wr G n Pv St) (D : Addr) (out : D ∉ fp) (xs : List Str) (len : n = xs.length) (below : xs.length + 1 < scanBound) (val : ∀ i v, Pv i v → ∃ x t, xs[i]? = some x ∧ v = .str x t) :
    ∀ (k i : Nat) (s : Shared), n - i = k → i ≤ n → St i s → (∃ c, c ≤ i ∧ SetT w s.heap D (fun y => decide (y ∈ xs.take i)) c) →
      (∀ s' c, Moved (D :: wr) G s s' → c ≤ n → SetT w s'.heap D (fun y => decide (y ∈ xs)) c → R (.ok (.ret .none)) s') →
      codeAny (model P w) A (.builtin "set.update.loop" ⟨[.ref D, .ref I], []⟩) R s := by
  have notw : D ∉ wr := fun z => out (W.sub _ z)
  have sub : ∀ b ∈ wr, b ∈ D :: wr := fun b hb => List.mem_cons_of_mem _ hb
  intro k
  induction k with
  | zero =>
    intro i s hk hi st ⟨c, hc, hS⟩ q
    obtain rfl : i = n := by omega
    refine codeAny_builtin F.entry_set_update_loop ?_
    rw [Around.under_plainId F.plain_set_update_loop _]
    show wpAny _ A.in1 (pyNext (.ref I) >>= _) _ _ s
    refine wpAny_bind (W.done s _ _ st fun t moved => ?_)
    show wpAny _ A.in1 (ret Value.none) _ _ t
    rw [List.take_of_length_le (by omega : xs.length ≤ i)] at hS
    exact wpAny_pure (q t c (moved.mono sub) hc (hS.there fun o e => moved.heap D o notw e))
  | succ k ih =>
    intro i s hk hi st ⟨c, hc, hS⟩ q
    have lt : i < n := by omega
    refine codeAny_builtin F.entry_set_update_loop ?_
    rw [Around.under_plainId F.plain_set_update_loop _]
    show wpAny _ A.in1 (pyNext (.ref I) >>= _) _ _ s
    refine wpAny_bind (W.item i s _ _ lt st fun v t hP st' moved => ?_)
    obtain ⟨x, tk, hx, rfl⟩ := val i v hP
    have hS' : SetT w t.heap D (fun y => decide (y ∈ xs.take i)) c := hS.there fun o e => moved.heap D o notw e
    show wpAny _ A.in1 (holding [Value.str x tk] (setAdd D (.str x tk)) >>= _) _ _ t
    refine wpAny_bind (wpAny_holding ?_)
    unfold setAdd
    refine wpAny_holding (wpAny_bind ((tkd P w).pyHash (k := x) (strKind_is _ _ _ _) ?_))
    refine add_txt (s := { t with toks := t.toks + 1 }) hS' (by omega) fun h' sb r => ?_
    have r3 : SetT w h' D (fun y => decide (y ∈ xs.take (i + 1))) (if decide (x ∈ xs.take i) = true then c else c + 1) := r.same fun y => by
      rw [List.take_add_one, hx]
      simp [List.mem_append]
    have c3 : (if decide (x ∈ xs.take i) = true then c else c + 1) ≤ i + 1 := by split <;> omega
    refine wpAny_pure ⟨plainId_quiet F.plain_set_update_loop _, ih (i + 1) _ (by omega) lt (W.frame _ t _ _ st' (Nat.le_succ _) fun b hb o e => ?_) ⟨_, c3, r3⟩ fun t2 c2 m2 hc2 hS2 => ?_⟩
    · rw [sb.2 b (fun z : b = D => out (by rw [← z]; exact hb))]; exact e
    · refine q t2 c2 (Moved.trans W.gtrans ((moved.mono sub).then_heap (Nat.le_succ _) fun b o hb e => ?_) m2) hc2 hS2
      rw [sb.2 b (fun z : b = D => hb (by rw [z]; exact List.mem_cons_self))]; exact e
theorem loop_txts {l : Addr} {items : Array Value} {xs : List Str} (cool : A.handled = none) (hl : s.heap.IsList l items) (hi : StrsAre items.toList xs) (below : xs.length + 1 < scanBound) :
    ∀ (A' : Around) (R : Result → Shared → Prop) (s1 : Shared), A'.handled = A.handled → s1.heap = (s.heap.push (set0 w)).push (lit0 l) →
      (∀ s', Moved [s.heap.objs.size, s.heap.objs.size + 1] (fun a b => b = a) s1 s' → (∃ c, c ≤ xs.length ∧ SetT w s'.heap s.heap.objs.size (fun y => decide (y ∈ xs)) c) → R (.ok (.ret .none)) s') →
      codeAny (model P w) A' (.builtin "set.update.loop" ⟨[.ref s.heap.objs.size, .ref (s.heap.objs.size + 1)], []⟩) R s1 := by
  intro A' R s1 hA e1 k
  have size : items.size = xs.length := by
    have q := StrsAre.length hi
    rwa [Array.length_toList] at q
  have low : l < s.heap.objs.size := Heap.lt_size hl.choose_spec.1
  have z1 : (s.heap.push (set0 w)).objs.size = s.heap.objs.size + 1 := Heap.size_push ..
  have g0 : s1.heap.get? s.heap.objs.size = some (set0 w) := e1 ▸ Heap.get?_push_of_some _ (Heap.get?_push_size _ rfl)
  have gI : s1.heap.get? (s.heap.objs.size + 1) = some (lit0 l) := by
    have q := Heap.get?_push_size (o := lit0 l) (s.heap.push (set0 w)) rfl
    rw [z1] at q
    exact e1 ▸ q
  have gl : s1.heap.IsList l items := e1 ▸ (hl.push _).push _
  have W := (Walks.list (prog := P) (w := w) (A := A'.in1) (by simp [hA, cool]) (s.heap.objs.size + 1) l (Nat.ne_of_lt (Nat.lt_succ_of_lt low)) items).toS
  refine update_txts W s.heap.objs.size ?_ xs size below ?_ (items.size - 0) 0 s1 rfl (Nat.zero_le _) ⟨⟨_, gI, rfl, rfl⟩, gl⟩ ⟨0, Nat.le_refl 0, setT_new g0⟩ fun s' c hm hc hS => k s' hm ⟨c, by omega, hS⟩
  · intro z
    rcases List.mem_cons.mp z with z | z
    · exact absurd z (Nat.ne_of_lt (Nat.lt_succ_self _))
    · exact absurd (List.mem_singleton.mp z) (Nat.ne_of_gt low)
  · intro i v hv
    have lt : i < xs.length := by rw [← size]; exact (Array.getElem?_eq_some_iff.mp hv).1
    obtain ⟨t, e⟩ := SS.strs_at hi i v (by rw [Array.getElem?_toList]; exact hv)
    refine ⟨xs[i], t, List.getElem?_eq_getElem lt, ?_⟩
    rw [e, List.getD_eq_getElem?_getD, List.getElem?_eq_getElem lt]
    rfl
theorem sort_txts {n : Nat} {Q : Value → Shared → Prop} (R : SetT w s.heap a T n) (cool : A.handled = none)
    (q : ∀ t p (out : Array Value) (c : Nat) (ys : List Str), (∀ b o, s.heap.get? b = some o → t.heap.get? b = some o) → t.gens = s.gens → t.os = s.os → s.heap.objs.size ≤ p → t.heap.get? p = some (seqObj "list" out c) →
      StrsAre out.toList ys → sortedS ys = true → ys.Nodup → (∀ x, x ∈ ys ↔ T x = true) → ys.length = n → Q (.ref p) t) : wpAny (model P w) A (call (.builtin "sorted") [.ref a]) Q E s := by
  obtain ⟨o, es, ep, tb, got, ex, dat, ent, dis, mem, below, fit, num, ris, led⟩ := R
  refine Calls.call_function_entry kind_sorted plain_sorted entry_sorted (args_sorted1 _) ?_
  unfold Builtin.«sorted»
  refine wpAny_bind (m := checkCount "sorted" 1 1 _) (wpAny_pure (wpAny_bind ?_))
  refine collect_set (A := A.in1) cool ⟨o, got, ex.1, dat⟩ fit below ris led fun t vals keep big gens os perm => ?_
  have many : vals.length = n := by rw [perm.length_eq, List.length_map, Array.length_toList]; exact num
  have small : vals.length ≤ sizeLine := by
    rw [perm.length_eq, List.length_map, Array.length_toList]
    exact fits_of_scanBound below
  have txs : StrsAre vals (vals.map PyProof.Rows.strOf) := strsAre_map vals fun v hv => by
    obtain ⟨e, he, z⟩ := List.mem_map.mp (perm.mem_iff.mp hv)
    obtain ⟨x, tk, h1, _⟩ := ent e he
    exact ⟨x, tk, by rw [← z]; exact h1⟩
  have perm2 := perm.map PyProof.Rows.strOf
  rw [List.map_map] at perm2
  have et : es.toList.map (PyProof.Rows.strOf ∘ fun e => e.2) = es.toList.map txtOf := List.map_congr_left fun e he => by
    obtain ⟨x, tk, h1, _⟩ := ent e he
    show PyProof.Rows.strOf e.2 = txtOf e
    unfold txtOf
    rw [h1]
    rfl
  rw [et] at perm2
  refine wpAny_bind (wpAny_newList (wpAny_bind (wpAny_holding ?_)) small)
  have got2 : (t.heap.push (seqObj "list" vals.toArray 0)).get? t.heap.objs.size = some (seqObj "list" vals.toArray 0) := Heap.get?_push_size _ rfl
  refine wpAny_call_entry slot_list_sort ⟨_, got2, rfl⟩ entry_list_sort ?_ (args_list_sort _)
  refine list_sort_treeKAny strKind_oneLt got2 txs.keysOf (fun v1 v2 rest e => keyKind_strs (by rw [← e]; exact txs)) small fun st' hp hs => ⟨_, rfl, wpAny_pure ⟨_, rfl, ?_⟩⟩
  obtain ⟨ys, k1, k2, k3⟩ := sorted_out_str txs hp hs
  obtain ⟨c, got3⟩ := sortedHeap_at (vs := vals) (out := (arrOf st').map (·.2)) got2
  have pn := k2.trans perm2
  refine q _ t.heap.objs.size _ c ys (fun b u z => ?_) gens os big got3 k1 k3 (pn.nodup_iff.mpr dis) (fun x => pn.mem_iff.trans (mem x).symm) (by rw [pn.length_eq, List.length_map, Array.length_toList]; exact num)
  have z1 := keep b u z
  have z2 := Heap.lt_size z1
  show (sortedHeap (t.heap.push (seqObj "list" vals.toArray 0)) t.heap.objs.size vals ((arrOf st').map (·.2))).get? b = some u
  rw [sortedHeap_old (Nat.ne_of_lt z2) (by rw [size_push']; exact Nat.lt_succ_of_lt z2)]
  exact Heap.get?_push_of_some _ z1
end
/-- the set object -/
def SetTO (w : World) (a : Addr) (T : Str → Bool) (n : Nat) : HO := .ext fun h => SetT w h a T n
theorem setT_ok {w : World} {P : Program} {H : Hp} {h : Heap} {a : Addr} {T : Str → Bool} {n : Nat} (R : SetT w h a T n) : ObjOk P w H h a (SetTO w a T n) :=
  ⟨R, R.imp fun o z => by obtain ⟨_, _, _, g, _⟩ := z; exact g, fun h1 h2 p k => SetT.there p k⟩
section
variable {X : Cx}
def rSetT (K : PySem.W.Frag) (w : World) : List V → Hp → VK → Prop := fun xs H Q => ∃ (l : Addr) (ys : List Str), xs = [.ref l] ∧ SqL K H l (ys.map V.str) ∧ ys.length < 4000 ∧
  ∀ p c, H p = none → c ≤ ys.length → Q (.ref p) (upd H p (SetTO w p (fun y => decide (y ∈ ys)) c))
theorem cr_setT (cool : X.calm = true) : CallR X (.type "set") (rSetT X.K X.w) := by
  intro pins s σ H xs us Q I r h
  obtain ⟨l, ys, rfl, hl, few, q⟩ := h
  obtain ⟨u, rfl, ru⟩ := vals1 r
  cases (show u = Value.ref l from ru)
  obtain ⟨its, rv, pl, hz⟩ := I.list hl
  have hi : StrsAre its.toArray.toList ys := by simpa using rv.strs
  refine set_of_list (P := X.prog) (w := X.w) (Fin := fun h => ∃ c, c ≤ ys.length ∧ SetT X.w h s.heap.objs.size (fun y => decide (y ∈ ys)) c) pl.isList (loop_txts (I.ok.hd cool) pl.isList hi (by unfold scanBound; omega)) fun h' tk hF hk => ?_
  obtain ⟨c, hc', R⟩ := hF
  have fr := I.hok.fresh (Nat.le_refl s.heap.objs.size)
  exact ⟨.ref s.heap.objs.size, _, I.laid (t' := tk) hk (Nat.le_refl _) (setT_ok R), rfl, q _ _ fr hc'⟩
def rSortT (w : World) : List V → Hp → VK → Prop := fun vs H Q => ∃ (a : Addr) (T : Str → Bool) (n : Nat), vs = [V.ref a] ∧ H a = some (SetTO w a T n) ∧ n ≤ 4000 ∧
  ∀ (ys : List Str) (p : Addr), sortedS ys = true → ys.Nodup → (∀ x, x ∈ ys ↔ T x = true) → H p = none → Q (.ref p) (upd H p (.lst (ys.map V.str)))
theorem cr_sortT (cool : X.calm = true) : CallR X (.builtin "sorted") (rSortT X.w) := by
  intro pins s σ H vs us Q I r h
  obtain ⟨a, T, n, rfl, ha, few, q⟩ := h
  rw [Vals.ref1 r]
  refine sort_txts (I.hok a _ ha).1 (I.ok.hd cool) fun t p out c ys keep gens os big got txs up dis mem many => ?_
  have free : H p = none := I.hok.fresh big
  have size : (ys.map V.str).length ≤ sizeLine := by rw [List.length_map, many, sizeLine_eq]; omega
  obtain ⟨th, tg, td, tt, to⟩ := t
  cases (show to = s.os from os)
  have keep' : ∀ b o, s.heap.get? b = some o → th.get? b = some o := keep
  have J := I.call (H' := upd H p (.lst (ys.map V.str))) (h' := th) (g' := tg) (d' := td) (t' := tt) (ch := []) (Un.laid keep' big free) (I.hok.laid keep' big ⟨size, out.toList, c, vals_of_strs txs, got⟩) (by rw [show tg = s.gens from gens]; exact I.bare) (fun _ z => nomatch z)
  exact ⟨.ref p, _, J, rfl, q ys p up dis mem free⟩
end
/-- sorted(set(xs)), xs a list of texts -/
theorem r_sortSetT {K : PySem.W.Frag} {w : World} {σ : L2.St} {H : Hp} {Q : VK} {l : Addr} {xs : List Str} (hl : SqL K H l (xs.map V.str)) (hn : xs.length < 4000)
    (k : ∀ (ys : List Str) (p : Addr) (H' : Hp), sortedS ys = true → ys.Nodup → (∀ x, x ∈ ys ↔ x ∈ xs) → Same H H' → H p = none → H' p = some (.lst (ys.map V.str)) → Q (.ref p) H') :
    rSetT K w [.ref l] H fun x H1 => tNil σ H1 fun zs H2 => rSortT w (x :: zs) H2 Q := by
  refine ⟨l, xs, rfl, hl, hn, fun p c hp hc => ?_⟩
  refine r_nil ⟨p, _, c, rfl, upd_same, by omega, fun ys p2 hs hd hm h2 => ?_⟩
  have h3 : H p2 = none := by
    by_cases e : p2 = p
    · rw [e, upd_same] at h2; cases h2
    · rwa [upd_ne e] at h2
  exact k ys p2 _ hs hd (fun z => by rw [hm]; simp) ((same_new hp).trans (same_new h2)) h3 upd_same
end CP

set_option Elab.async false
set_option linter.all false
set_option maxRecDepth 100000
set_option maxHeartbeats 4000000
set_option autoImplicit false
/-! == and != of equal data of any shape: lists, tuples, dicts -/
namespace CP
open PySem L2 PySem.Spec PyProof.Rows PySem.SeqAt
open MeetsSeq3 (plain_eq_loop entry_eq_loop)
section
variable {prog : Program} {w : World}
/-- != of two tuples whose items are equal -/
theorem tup_ne_same (l b : Addr) (us vs : Array Value) (m m2 : Nat) (dd dd2 : Option Addr) (sl sl2 : Array (Option Value)) (sz : us.size = vs.size) :
    MeetsIn prog w (Builtin.«tuple.__ne__» ⟨[.ref l, .ref b], []⟩)
      (fun A R s => s.heap.get? l = some { cls := .type "tuple", dict := dd, data := .seq us m, slots := sl } ∧ s.heap.get? b = some { cls := .type "tuple", dict := dd2, data := .seq vs m2, slots := sl2 } ∧
        (∀ j (h1 : j < us.size) (h2 : j < vs.size), EqP prog w A.in1 s us[j] vs[j] true) ∧ R (.ok (.ret (.bool false))) s) := by
  intro A R s h
  obtain ⟨hp, g, d, tk, os⟩ := s
  obtain ⟨hl, hb, he, h⟩ := h
  have f2 := AutoSeq1.sub_tuple_tuple
  have zl : (us.toList.zip vs.toList).length = us.size := by simp [sz]
  wp_walk using wpAny_loadPart' hl, wpAny_loadPart' hb, wpAny_forIn_list _ (fun rest b s' => b.1 = none ∧ s' = ⟨hp, g, d, tk, os⟩ ∧ ∃ i, rest = (us.toList.zip vs.toList).drop i) _
  case turn =>
    rintro ⟨y, x⟩ rest c s' ⟨hc, rfl, i, hz⟩
    have lt : i < (us.toList.zip vs.toList).length := by
      rcases Nat.lt_or_ge i (us.toList.zip vs.toList).length with k | k
      · exact k
      · rw [List.drop_of_length_le k] at hz; cases hz
    have l1 : i < us.size := zl ▸ lt
    have l2 : i < vs.size := sz ▸ l1
    rw [List.drop_eq_getElem_cons lt] at hz
    injection hz with hyx more
    have ey : y = us[i] := by simpa using congrArg Prod.fst hyx
    have ex : x = vs[i] := by simpa using congrArg Prod.snd hyx
    subst ey ex
    refine wpAny_bind (he i l1 l2 _ _ ?_)
    wp_walk
    exact ⟨rfl, rfl, i + 1, more⟩
  case fin =>
    rintro ⟨b1, b2⟩ s' ⟨hc, rfl, i, hz⟩
    simp only at hc
    subst hc
    wp_walk
    simpa [Builtin.Tuple.tupleCompareSizes, bne, sz] using h
  case h =>
    exact ⟨rfl, rfl, 0, rfl⟩
theorem rc_tup_ne {A : Around} {s : Shared} {l b : Addr} {us vs : Array Value} (hl : s.heap.IsTuple l us) (hb : s.heap.IsTuple b vs) (sz : us.size = vs.size) (hu : A.units < cLine)
    (he : ∀ j (h1 : j < us.size) (h2 : j < vs.size), EqP prog w A.in1 s us[j] vs[j] true) (E Q : Value → Shared → Prop) (h : Q (.bool false) s) : wpAny (model prog w) A (richCompare .NotEq (.ref l) (.ref b)) Q E s := by
  obtain ⟨⟨c1, d1, x1, s1⟩, o1, e1, m1, z1⟩ := id hl
  obtain ⟨⟨c2, d2, x2, s2⟩, o2, e2, m2, z2⟩ := id hb
  simp only at e1 z1 e2 z2
  subst e1 z1 e2 z2
  exact wpAny_richCompare_same_room (op := .NotEq) ⟨_, o1, rfl⟩ ⟨_, o2, rfl⟩ F.slot_tuple_ne (call_meetsIn F.slot_tuple_ne ⟨_, o1, rfl⟩ F.entry_tuple_ne (F.args_tuple_ne_2 _ _) (tup_ne_same l b us vs m1 m2 d1 d2 s1 s2 sz)
    ⟨o1, o2, he, show Value.bool false ≠ Value.notImplemented ∧ Q (.bool false) s from ⟨(fun x => nomatch x), h⟩⟩) hu
/-- the loop of two lists whose items are equal -/
theorem lst_ne_loop (l b : Addr) (us vs : Array Value) (m m2 : Nat) (dd dd2 : Option Addr) (sl sl2 : Array (Option Value)) (sz : us.size = vs.size) :
    ∀ k i : Nat, us.size - i = k → MeetsIn prog w (Builtin.«list.__eq__.loop» ⟨[.ref l, .ref b, rawInt i, rawInt 3], []⟩)
      (fun A R s => s.heap.get? l = some { cls := .type "list", dict := dd, data := .seq us m, slots := sl } ∧ s.heap.get? b = some { cls := .type "list", dict := dd2, data := .seq vs m2, slots := sl2 } ∧
        (∀ j (h1 : j < us.size) (h2 : j < vs.size), EqP prog w A.in1 s us[j] vs[j] true) ∧ R (.ok (.ret (.bool false))) s)
  | 0, i, hk => by
    intro A R s h
    obtain ⟨hp, g, d, tk, os⟩ := s
    obtain ⟨hl, hb, he, h⟩ := h
    wp_walk using wpAny_loadPart' hl, wpAny_loadPart' hb
    have q1 : us[((i : Nat) : Int).toNat]? = none := by simp; omega
    have q2 : vs[((i : Nat) : Int).toNat]? = none := by simp; omega
    rw [q1, q2]
    wp_walk using wpAny_loadPart' hl, wpAny_loadPart' hb
    show R (.ok (.ret (.bool (us.size != vs.size)))) _
    rw [sz]
    simpa using h
  | k + 1, i, hk => by
    intro A R s h
    obtain ⟨hp, g, d, tk, os⟩ := s
    obtain ⟨hl, hb, he, h⟩ := h
    wp_walk using wpAny_loadPart' hl, wpAny_loadPart' hb
    have l1 : i < us.size := by omega
    have l2 : i < vs.size := by omega
    have q1 : us[((i : Nat) : Int).toNat]? = some us[i] := by simp [l1]
    have q2 : vs[((i : Nat) : Int).toNat]? = some vs[i] := by simp [l2]
    have q3 : ((i : Int) + 1) = ((i + 1 : Nat) : Int) := by push_cast; rfl
    rw [q1, q2]
    refine wpAny_bind (he i l1 l2 _ _ ?_)
    wp_walk
    rw [q3]
    exact ⟨plainId_quiet plain_eq_loop _, codeAny_builtin entry_eq_loop (by
      rw [Around.under_plainId plain_eq_loop _]
      exact lst_ne_loop l b us vs m m2 dd dd2 sl sl2 sz k (i + 1) (by omega) A R _ ⟨hl, hb, he, h⟩)⟩
theorem lst_ne_same (l b : Addr) (us vs : Array Value) (m m2 : Nat) (dd dd2 : Option Addr) (sl sl2 : Array (Option Value)) (sz : us.size = vs.size) :
    MeetsIn prog w (Builtin.«list.__ne__» ⟨[.ref l, .ref b], []⟩)
      (fun A R s => s.heap.get? l = some { cls := .type "list", dict := dd, data := .seq us m, slots := sl } ∧ s.heap.get? b = some { cls := .type "list", dict := dd2, data := .seq vs m2, slots := sl2 } ∧
        (∀ j (h1 : j < us.size) (h2 : j < vs.size), EqP prog w A.in1 s us[j] vs[j] true) ∧ R (.ok (.ret (.bool false))) s) := by
  intro A R s h
  obtain ⟨hp, g, d, tk, os⟩ := s
  obtain ⟨hl, hb, he, h⟩ := h
  have f3 := AutoSeq1.sub_list_list
  have hne : ¬ (us.size != vs.size) = true := by simp [sz]
  wp_walk using wpAny_loadPart' hl, wpAny_loadPart' hb
  exact ⟨plainId_quiet plain_eq_loop _, codeAny_builtin entry_eq_loop (by
    rw [Around.under_plainId plain_eq_loop _]
    exact lst_ne_loop l b us vs m m2 dd dd2 sl sl2 sz _ 0 rfl A R _ ⟨hl, hb, he, h⟩)⟩
theorem rc_lst_ne {A : Around} {s : Shared} {l b : Addr} {us vs : Array Value} (hl : s.heap.IsList l us) (hb : s.heap.IsList b vs) (sz : us.size = vs.size) (hu : A.units < cLine)
    (he : ∀ j (h1 : j < us.size) (h2 : j < vs.size), EqP prog w A.in1 s us[j] vs[j] true) (E Q : Value → Shared → Prop) (h : Q (.bool false) s) : wpAny (model prog w) A (richCompare .NotEq (.ref l) (.ref b)) Q E s := by
  obtain ⟨⟨c1, d1, x1, s1⟩, o1, e1, m1, z1⟩ := id hl
  obtain ⟨⟨c2, d2, x2, s2⟩, o2, e2, m2, z2⟩ := id hb
  simp only at e1 z1 e2 z2
  subst e1 z1 e2 z2
  exact wpAny_richCompare_same_room (op := .NotEq) ⟨_, o1, rfl⟩ ⟨_, o2, rfl⟩ F.slot_list_ne (call_meetsIn F.slot_list_ne ⟨_, o1, rfl⟩ F.entry_list_ne (F.args_list_ne_2 _ _) (lst_ne_same l b us vs m1 m2 d1 d2 s1 s2 sz)
    ⟨o1, o2, he, show Value.bool false ≠ Value.notImplemented ∧ Q (.bool false) s from ⟨(fun x => nomatch x), h⟩⟩) hu
theorem rc_tup_eq {A : Around} {s : Shared} {l b : Addr} {us vs : Array Value} (hl : s.heap.IsTuple l us) (hb : s.heap.IsTuple b vs) (sz : us.size = vs.size) (hu : A.units < cLine)
    (he : ∀ j (h1 : j < us.size) (h2 : j < vs.size), EqP prog w A.in1 s us[j] vs[j] true) (E Q : Value → Shared → Prop) (h : Q (.bool true) s) : wpAny (model prog w) A (richCompare .Eq (.ref l) (.ref b)) Q E s :=
  GQ.rc_tupG sz hu (fun _ t => t = s) hl hb (fun i h1 h2 t e => by
    subst e
    exact he i h1 h2 E _ ⟨rfl, rfl⟩) (fun t e => by subst e; exact h) rfl
end
/-! equal values: of nesting below n -/
/-- two lists, two tuples of equal items; two dicts of the same keys whose values are equal -/
def SqR (K : PySem.W.Frag) (H : Hp) (E : V → V → Prop) (x y : V) : Prop :=
  (∃ a b xs ys, x = .ref a ∧ y = .ref b ∧ SqL K H a xs ∧ SqL K H b ys ∧ Paired E xs ys) ∨ (∃ a b xs ys, x = .ref a ∧ y = .ref b ∧ SqT K H a xs ∧ SqT K H b ys ∧ Paired E xs ys) ∨
    ∃ a b ks ls, x = .ref a ∧ y = .ref b ∧ H a = some (.dK ks) ∧ H b = some (.dK ls) ∧ ks.length = ls.length ∧ ∀ p ∈ ks, ∃ u, valV ls p.1 = some u ∧ E p.2 u
def SqV (K : PySem.W.Frag) (H : Hp) : Nat → V → V → Prop
  | 0 => fun _ _ => False
  | n + 1 => fun x y => (x = y ∧ flatB x = true) ∨ (∃ a, x = .ref a ∧ y = .ref a) ∨ SqR K H (SqV K H n) x y
section
variable {X : Cx} {pins : List (Addr × Obj)} {σ : L2.St} {H : Hp} {s : Shared}
theorem sqR_eq (I : Inv X pins σ H s) {A : Around} {F : V → V → Prop} (hu : A.units < cLine) (ih : ∀ x y v u, F x y → RelV x v → RelV y u → EqP X.prog X.w A.in1 s v u true) {x y : V} {v u : Value} (h : SqR X.K H F x y) (rx : RelV x v) (ry : RelV y u)
    (E Q : Value → Shared → Prop) (q : Q (.bool true) s) : wpAny (model X.prog X.w) A (richCompare .Eq v u) Q E s := by
  rcases h with h | ⟨a, b, xs, ys, rfl, rfl, ha, hb, hp⟩ | h
  · exact eqR_run I hu ih (.inl h) rx ry E Q q
  · cases (show v = Value.ref a from rx)
    cases (show u = Value.ref b from ry)
    obtain ⟨us, r1, p1, _⟩ := I.tuple ha
    obtain ⟨ws, r2, p2, _⟩ := I.tuple hb
    have sz : us.toArray.size = ws.toArray.size := by
      rw [List.size_toArray, List.size_toArray, ← r1.length, ← r2.length]
      exact Paired.length hp
    exact rc_tup_eq p1 p2 sz hu (fun j h1 h2 => by simpa using items_run ih hp r1 r2 j (by simpa using h1) (by simpa using h2)) E Q q
  · exact eqR_run I hu ih (.inr h) rx ry E Q q
theorem sqV_eq (I : Inv X pins σ H s) : ∀ (n : Nat) (A : Around), A.units + n < cLine → ∀ (x y : V) (v u : Value), SqV X.K H n x y → RelV x v → RelV y u → EqP X.prog X.w A s v u true
  | 0, _, _, _, _, _, _, h, _, _ => (show False from h).elim
  | n + 1, A, hu, x, y, v, u, h, rx, ry => by
    rcases h with ⟨rfl, f⟩ | ⟨a, rfl, rfl⟩ | h
    · exact (eqAt_same rx ry f).eqP
    · cases (show v = Value.ref a from rx)
      cases (show u = Value.ref a from ry)
      exact (EqAt.same _).eqP
    · have step := sqR_eq I (A := A) (by omega) (sqV_eq I n A.in1 (by show A.units + 1 + n < cLine; omega)) h rx ry
      obtain ⟨a, b, rfl, rfl⟩ : ∃ a b, x = .ref a ∧ y = .ref b := by
        rcases h with ⟨a, b, _, _, e1, e2, _⟩ | ⟨a, b, _, _, e1, e2, _⟩ | ⟨a, b, _, _, e1, e2, _⟩ <;> exact ⟨a, b, e1, e2⟩
      cases (show v = Value.ref a from rx)
      cases (show u = Value.ref b from ry)
      by_cases e : a = b
      · subst e
        exact (EqAt.same _).eqP
      · exact eqP_refs e step
end
section
variable {X : Cx}
/-- ==, != of equal lists and tuples -/
def rEqQ (K : PySem.W.Frag) : R2 := fun x y H Q => ∃ n, n ≤ 60 ∧ SqR K H (SqV K H n) x y ∧ Q (.bl true) H
def rNeQ (K : PySem.W.Frag) : R2 := fun x y H Q => ∃ n a b xs ys, n ≤ 60 ∧ x = .ref a ∧ y = .ref b ∧ ((SqL K H a xs ∧ SqL K H b ys) ∨ (SqT K H a xs ∧ SqT K H b ys)) ∧ Paired (SqV K H n) xs ys ∧ Q (.bl false) H
theorem op_eqQ (hu : X.A.units + 64 < cLine) : OpR X (compareOp .Eq) (rEqQ X.K) := by
  intro pins s σ H x y v u Q I rx ry h
  obtain ⟨n, hn, h, q⟩ := h
  exact sqR_eq I (A := X.A) (by omega) (sqV_eq I n X.A.in1 (by show X.A.units + 1 + n < cLine; omega)) h rx ry _ _ ⟨.bl true, H, I, rfl, q⟩
theorem op_neQ (hu : X.A.units + 64 < cLine) : OpR X (compareOp .NotEq) (rNeQ X.K) := by
  intro pins s σ H x y v u Q I rx ry h
  obtain ⟨n, a, b, xs, ys, hn, rfl, rfl, h, hp, q⟩ := h
  have ih := sqV_eq I n X.A.in1 (by show X.A.units + 1 + n < cLine; omega)
  cases (show v = Value.ref a from rx)
  cases (show u = Value.ref b from ry)
  have fin : (EP X pins σ Q) (.bool false) s := ⟨.bl false, H, I, rfl, q⟩
  rcases h with ⟨ha, hb⟩ | ⟨ha, hb⟩
  · obtain ⟨us, r1, p1, _⟩ := I.list ha
    obtain ⟨ws, r2, p2, _⟩ := I.list hb
    have sz : us.toArray.size = ws.toArray.size := by
      rw [List.size_toArray, List.size_toArray, ← r1.length, ← r2.length]
      exact Paired.length hp
    exact rc_lst_ne p1.isList p2.isList sz (by omega) (fun j h1 h2 => by simpa using items_run ih hp r1 r2 j (by simpa using h1) (by simpa using h2)) _ _ fin
  · obtain ⟨us, r1, p1, _⟩ := I.tuple ha
    obtain ⟨ws, r2, p2, _⟩ := I.tuple hb
    have sz : us.toArray.size = ws.toArray.size := by
      rw [List.size_toArray, List.size_toArray, ← r1.length, ← r2.length]
      exact Paired.length hp
    exact rc_tup_ne p1 p2 sz (by omega) (fun j h1 h2 => by simpa using items_run ih hp r1 r2 j (by simpa using h1) (by simpa using h2)) _ _ fin
/-- ==, != of any of these: plain values, data without dicts, equal data -/
def rEqX (K : PySem.W.Frag) : R2 := fun x y H Q => rEq x y H Q ∨ rEqD K x y H Q ∨ rEqQ K x y H Q
def rNeX (K : PySem.W.Frag) : R2 := fun x y H Q => rNe x y H Q ∨ rNeD K x y H Q ∨ rNeQ K x y H Q
theorem op_eqX (hu : X.A.units + 64 < cLine) : OpR X (compareOp .Eq) (rEqX X.K) := by
  intro pins s σ H x y v u Q I rx ry h
  rcases h with h | h | h
  · exact op_eq pins s σ H x y v u Q I rx ry h
  · exact op_eqD hu pins s σ H x y v u Q I rx ry h
  · exact op_eqQ hu pins s σ H x y v u Q I rx ry h
theorem op_neX (hu : X.A.units + 64 < cLine) : OpR X (compareOp .NotEq) (rNeX X.K) := by
  intro pins s σ H x y v u Q I rx ry h
  rcases h with h | h | h
  · exact op_ne pins s σ H x y v u Q I rx ry h
  · exact op_neD hu pins s σ H x y v u Q I rx ry h
  · exact op_neQ hu pins s σ H x y v u Q I rx ry h
end
section
variable {K : PySem.W.Frag} {H : Hp} {Q : VK} {a b : Str} {i j : Int}
theorem txt_dec : decide (V.str a = V.str b) = decide (a = b) := by
  by_cases h : a = b
  · subst h; simp
  · rw [decide_eq_false h, decide_eq_false fun z => h (V.str.inj z)]
theorem r_eqXS (q : Q (.bl (decide (a = b))) H) : rEqX K (.str a) (.str b) H Q := .inl ⟨rfl, by rw [txt_dec]; exact q⟩
theorem r_neXS (q : Q (.bl (!decide (a = b))) H) : rNeX K (.str a) (.str b) H Q := .inl ⟨rfl, by rw [txt_dec]; exact q⟩
theorem r_eqXI (q : Q (.bl (decide (i = j))) H) : rEqX K (.int i) (.int j) H Q := .inl (r_eqI q)
theorem r_neXI (q : Q (.bl (!decide (i = j))) H) : rNeX K (.int i) (.int j) H Q := .inl (r_neI q)
end
end CP

set_option Elab.async false
set_option linter.all false
set_option maxRecDepth 100000
set_option maxHeartbeats 4000000
set_option autoImplicit false
/-! texts in order; lists of texts as values -/
namespace CP
open L2 PySem PyProof.Rows
def sle (a b : Str) : Prop := ¬ (b.cps.toList < a.cps.toList)
instance (a b : Str) : Decidable (sle a b) := inferInstanceAs (Decidable (¬ _))
theorem sle_refl (a : Str) : sle a a := List.lt_irrefl _
theorem sle_total (a b : Str) : sle a b ∨ sle b a := by
  by_cases h : b.cps.toList < a.cps.toList
  · exact .inr (List.lt_asymm h)
  · exact .inl h
theorem sle_trans {a b c : Str} (h1 : sle a b) (h2 : sle b c) : sle a c := by
  unfold sle at *
  rw [List.not_lt] at *
  exact List.le_trans h1 h2
theorem sle_anti {a b : Str} (h1 : sle a b) (h2 : sle b a) : a = b := by
  unfold sle at *
  rw [List.not_lt] at *
  have e := List.le_antisymm h1 h2
  cases a; cases b
  simp only at e
  rw [Array.toList_inj.mp e]
theorem rising_of : ∀ {l : List Str} {p : Str}, risingS p l = true → (p :: l).Pairwise sle
  | [], p, _ => List.pairwise_singleton _ _
  | x :: l, p, h => by
    unfold risingS at h
    rw [Bool.and_eq_true] at h
    have ih := rising_of h.2
    have hp : sle p x := by
      have := h.1
      rw [Bool.not_eq_true', ltCps_eq, decide_eq_false_iff_not] at this
      exact this
    refine List.pairwise_cons.mpr ⟨fun y hy => ?_, ih⟩
    rcases List.mem_cons.mp hy with e | e
    · rw [e]; exact hp
    · exact sle_trans hp (List.rel_of_pairwise_cons ih e)
theorem sorted_pw {l : List Str} (h : sortedS l = true) : l.Pairwise sle := by
  cases l with
  | nil => exact List.Pairwise.nil
  | cons x l => exact rising_of h
/-- in order -/
def srt (l : List Str) : List Str := l.mergeSort fun a b => decide (sle a b)
theorem srt_perm (l : List Str) : (srt l).Perm l := List.mergeSort_perm l _
theorem srt_pw (l : List Str) : (srt l).Pairwise sle := by
  have h := List.pairwise_mergeSort (le := fun a b => decide (sle a b)) (fun a b c h1 h2 => decide_eq_true (sle_trans (of_decide_eq_true h1) (of_decide_eq_true h2))) (fun a b => by
    rcases sle_total a b with h | h
    · rw [decide_eq_true h]; rfl
    · rw [decide_eq_true h, Bool.or_true]) l
  exact h.imp fun h => of_decide_eq_true h
theorem srt_unique {l m : List Str} (hp : l.Perm m) (h1 : l.Pairwise sle) (h2 : m.Pairwise sle) : l = m :=
  List.Perm.eq_of_pairwise (le := sle) (fun a b _ _ => sle_anti) h1 h2 hp
theorem srt_of {l ys : List Str} (hp : ys.Perm l) (h : sortedS ys = true) : ys = srt l := srt_unique (hp.trans (srt_perm l).symm) (sorted_pw h) (srt_pw l)
theorem srt_congr {l m : List Str} (h : l.Perm m) : srt l = srt m := srt_unique ((srt_perm l).trans (h.trans (srt_perm m).symm)) (srt_pw l) (srt_pw m)
theorem srt_len (l : List Str) : (srt l).length = l.length := (srt_perm l).length_eq
theorem mem_srt {l : List Str} {x : Str} : x ∈ srt l ↔ x ∈ l := (srt_perm l).mem_iff
theorem srt_id {l : List Str} (h : l.Pairwise sle) : srt l = l := srt_unique (srt_perm l) (srt_pw l) h
theorem srt_srt (l : List Str) : srt (srt l) = srt l := srt_id (srt_pw l)
/-- each once -/
def nub : List Str → List Str
  | [] => []
  | x :: l => if x ∈ l then nub l else x :: nub l
theorem mem_nub {l : List Str} {x : Str} : x ∈ nub l ↔ x ∈ l := by
  induction l with
  | nil => exact Iff.rfl
  | cons a l ih =>
    unfold nub
    split
    · rename_i h
      rw [ih, List.mem_cons]
      exact ⟨.inr, fun z => z.elim (fun e => e ▸ h) id⟩
    · rw [List.mem_cons, List.mem_cons, ih]
theorem nub_nodup (l : List Str) : (nub l).Nodup := by
  induction l with
  | nil => exact List.Pairwise.nil
  | cons a l ih =>
    unfold nub
    split
    · exact ih
    · rename_i h
      exact List.nodup_cons.mpr ⟨fun z => h (mem_nub.mp z), ih⟩
/-- sorted(set(l)) -/
def sset (l : List Str) : List Str := srt (nub l)
theorem mem_sset {l : List Str} {x : Str} : x ∈ sset l ↔ x ∈ l := mem_srt.trans mem_nub
theorem sset_nodup (l : List Str) : (sset l).Nodup := (srt_perm _).nodup_iff.mpr (nub_nodup l)
theorem sset_pw (l : List Str) : (sset l).Pairwise sle := srt_pw _
theorem sset_of {l ys : List Str} (h : sortedS ys = true) (hd : ys.Nodup) (hm : ∀ x, x ∈ ys ↔ x ∈ l) : ys = sset l :=
  srt_of ((List.perm_ext_iff_of_nodup hd (nub_nodup l)).mpr fun x => (hm x).trans mem_nub.symm) h
theorem sset_eq {l m : List Str} (hd : m.Nodup) (hp : m.Pairwise sle) (hm : ∀ x, x ∈ m ↔ x ∈ l) : m = sset l :=
  srt_unique (((List.perm_ext_iff_of_nodup hd (nub_nodup l)).mpr fun x => (hm x).trans mem_nub.symm).trans (srt_perm _).symm) hp (srt_pw _)
theorem sset_congr {l m : List Str} (h : ∀ x, x ∈ l ↔ x ∈ m) : sset l = sset m := sset_eq (sset_nodup l) (sset_pw l) fun x => mem_sset.trans (h x)
theorem sset_len (l : List Str) : (sset l).length ≤ l.length := by
  unfold sset
  rw [srt_len]
  induction l with
  | nil => exact Nat.le_refl 0
  | cons a l ih =>
    unfold nub
    split
    · rw [List.length_cons]; omega
    · rw [List.length_cons, List.length_cons]; omega
/-! lists of texts as values -/
def strL (l : List Str) : List V := l.map V.str
theorem strL_get {l : List Str} {i : Nat} {x : V} (h : (strL l)[i]? = some x) : ∃ n, l[i]? = some n ∧ x = .str n := by
  unfold strL at h
  rw [List.getElem?_map] at h
  cases e : l[i]? with
  | none => rw [e] at h; cases h
  | some n => rw [e] at h; exact ⟨n, rfl, (Option.some.inj h).symm⟩
theorem strL_len (l : List Str) : (strL l).length = l.length := List.length_map _
theorem strL_app (l m : List Str) : strL (l ++ m) = strL l ++ strL m := List.map_append
theorem strL_flat (l : List Str) : (strL l).all flatV = true := by
  unfold strL
  rw [List.all_map]
  exact List.all_eq_true.mpr fun _ _ => rfl
theorem inV_str (x : Str) (l : List Str) : inV (.str x) (strL l) = decide (x ∈ l) := by
  unfold inV strL
  induction l with
  | nil => rfl
  | cons a l ih =>
    rw [List.map_cons, List.any_cons, ih]
    show ((a == x) || _) = _
    by_cases e : a = x
    · subst e; simp
    · have e1 : (a == x) = false := by rw [beq_eq_false_iff_ne]; exact e
      rw [e1, Bool.false_or]
      simp [Ne.symm e]
/-! steps -/
abbrev oLenS : List V → Hp → VK → Prop := fun xs H Q => ∃ z, xs = [.str z] ∧ z.length ≤ sizeLine ∧ Q (.int z.length) H
section
variable {K : PySem.W.Frag} {σ : L2.St} {H : Hp} {Q : VK} {z : Str} {a b : Addr} {xs ys : List Str}
theorem r_lenS (h : z.length ≤ sizeLine) (q : Q (.int z.length) H) : oLenS [.str z] H Q := ⟨z, rfl, h, q⟩
theorem r_inS {c : Nat} (q : Q (.bl (decide (c ∈ z.cps.toList))) H) : rInS (.str ⟨#[c]⟩) (.str z) H Q := ⟨c, z, rfl, rfl, q⟩
theorem r_notInS {c : Nat} (q : Q (.bl (!decide (c ∈ z.cps.toList))) H) : rNotInS (.str ⟨#[c]⟩) (.str z) H Q := ⟨c, z, rfl, rfl, q⟩
theorem r_iStr {te : TE} {R : It → Hp → Prop} (q : te σ H fun v H1 => ∃ x, v = .str x ∧ R (Its x) H1) : iStr te σ H R := q
theorem r_strx {P : Str → Prop} (q : P z) : ∃ x, V.str z = .str x ∧ P x := ⟨z, rfl, q⟩
theorem r_chain {r r' : R2} {ta tb tc : TE} (q : ta σ H fun x H1 => tb σ H1 fun y H2 => r x y H2 fun v H3 => ∃ c, v = .bl c ∧ if c = true then tc σ H3 fun z H4 => r' y z H4 Q else Q (.bl false) H3) : tChain r r' ta tb tc σ H Q := q
theorem r_lc2 {P : Bool → Prop} {x : Bool} (q : P x) : ∃ c, V.bl x = .bl c ∧ P c := ⟨x, rfl, q⟩
/-! comparing -/
theorem dpA_strs : ∀ xs : List Str, DpAll K H (strL xs) (xs.map PyData.str)
  | [] => .nil
  | x :: xs => .cons (.str x) (dpA_strs xs)
theorem lay_strs (hs : ∀ x ∈ xs, (PyData.str x).canLay0 = true) : PyData.canLayAll0 (xs.map PyData.str) = true ∧ PyData.depthAll (xs.map PyData.str) = 0 := by
  induction xs with
  | nil => exact ⟨by simp [PyData.canLayAll0], by simp [PyData.depthAll]⟩
  | cons x xs ih =>
    obtain ⟨h1, h2⟩ := ih fun y hy => hs y (List.mem_cons_of_mem _ hy)
    refine ⟨by simp [PyData.canLayAll0, h1, hs x (List.mem_cons_self ..)], ?_⟩
    simp only [List.map_cons, PyData.depthAll, PyData.depth]
    omega
theorem eqv_strs : ∀ xs ys : List Str, PyData.eqvAll (xs.map PyData.str) (ys.map PyData.str) = decide (xs = ys)
  | [], [] => by simp [PyData.eqvAll]
  | [], _ :: _ => by simp [PyData.eqvAll]
  | _ :: _, [] => by simp [PyData.eqvAll]
  | a :: r, b :: t => by
    simp only [List.map_cons, PyData.eqvAll, PyData.eqv, eqv_strs r t]
    by_cases h : a = b <;> by_cases h' : r = t <;> simp [h, h']
theorem strs_eqX (h : SqL K H a (strL xs)) (h2 : SqL K H b (strL ys)) (hx : ∀ x ∈ xs, (PyData.str x).canLay0 = true) (hy : ∀ y ∈ ys, (PyData.str y).canLay0 = true) (q : Q (.bl (decide (xs = ys))) H) : rEqX K (.ref a) (.ref b) H Q := by
  obtain ⟨x1, x2⟩ := lay_strs hx
  obtain ⟨y1, y2⟩ := lay_strs hy
  refine .inr (.inl ⟨_, _, .lst h (dpA_strs xs), .lst h2 (dpA_strs ys), ?_, ?_, ?_⟩)
  · exact Bool.and_eq_true_iff.mpr ⟨by simp only [PyData.canLay0]; exact x1, decide_eq_true (by simp only [PyData.depth]; omega)⟩
  · exact Bool.and_eq_true_iff.mpr ⟨by simp only [PyData.canLay0]; exact y1, decide_eq_true (by simp only [PyData.depth]; omega)⟩
  · show Q (.bl (PyData.eqvAll (xs.map PyData.str) (ys.map PyData.str))) H
    rw [eqv_strs]
    exact q
theorem strs_neX (h : SqL K H a (strL xs)) (h2 : SqL K H b (strL ys)) (hx : ∀ x ∈ xs, (PyData.str x).canLay0 = true) (hy : ∀ y ∈ ys, (PyData.str y).canLay0 = true) (q : Q (.bl (!decide (xs = ys))) H) : rNeX K (.ref a) (.ref b) H Q := by
  obtain ⟨x1, x2⟩ := lay_strs hx
  obtain ⟨y1, y2⟩ := lay_strs hy
  refine .inr (.inl ⟨_, _, .lst h (dpA_strs xs), .lst h2 (dpA_strs ys), ?_, ?_, ?_⟩)
  · exact Bool.and_eq_true_iff.mpr ⟨by simp only [PyData.canLay0]; exact x1, decide_eq_true (by simp only [PyData.depth]; omega)⟩
  · exact Bool.and_eq_true_iff.mpr ⟨by simp only [PyData.canLay0]; exact y1, decide_eq_true (by simp only [PyData.depth]; omega)⟩
  · show Q (.bl (!PyData.eqvAll (xs.map PyData.str) (ys.map PyData.str))) H
    rw [eqv_strs]
    exact q
/-- two lists of any items, one of them empty: xs == [], xs != [] -/
theorem nil_eqX {vs : List V} (h : SqL K H a vs) (h2 : SqL K H b []) (hd : ∃ ds, DpAll K H vs ds ∧ PyData.canLayAll0 ds = true ∧ PyData.depthAll ds ≤ 60) (q : Q (.bl vs.isEmpty) H) : rEqX K (.ref a) (.ref b) H Q := by
  obtain ⟨ds, d1, d2, d3⟩ := hd
  refine .inr (.inl ⟨.list ds, .list [], .lst h d1, .lst h2 .nil, ?_, ?_, ?_⟩)
  · exact Bool.and_eq_true_iff.mpr ⟨by simp only [PyData.canLay0]; exact d2, decide_eq_true (by simp only [PyData.depth]; omega)⟩
  · decide +kernel
  · cases d1 with
    | nil => simpa [PyData.eqv, PyData.eqvAll] using q
    | cons _ _ => simpa [PyData.eqv, PyData.eqvAll] using q
theorem nil_neX {vs : List V} (h : SqL K H a vs) (h2 : SqL K H b []) (hd : ∃ ds, DpAll K H vs ds ∧ PyData.canLayAll0 ds = true ∧ PyData.depthAll ds ≤ 60) (q : Q (.bl (!vs.isEmpty)) H) : rNeX K (.ref a) (.ref b) H Q := by
  obtain ⟨ds, d1, d2, d3⟩ := hd
  refine .inr (.inl ⟨.list ds, .list [], .lst h d1, .lst h2 .nil, ?_, ?_, ?_⟩)
  · exact Bool.and_eq_true_iff.mpr ⟨by simp only [PyData.canLay0]; exact d2, decide_eq_true (by simp only [PyData.depth]; omega)⟩
  · decide +kernel
  · cases d1 with
    | nil => simpa [PyData.eqv, PyData.eqvAll] using q
    | cons _ _ => simpa [PyData.eqv, PyData.eqvAll] using q
theorem strs_dp (hx : ∀ x ∈ xs, (PyData.str x).canLay0 = true) : ∃ ds, DpAll K H (strL xs) ds ∧ PyData.canLayAll0 ds = true ∧ PyData.depthAll ds ≤ 60 :=
  ⟨_, dpA_strs xs, (lay_strs hx).1, by rw [(lay_strs hx).2]; decide⟩
end
end CP

set_option Elab.async false
set_option linter.all false
set_option maxRecDepth 100000
set_option maxHeartbeats 4000000
set_option autoImplicit false
/-! == and != of instances of a class with its own __eq__ (and no own __ne__) -/
namespace CP
open PySem L2 PySem.W PyProof.Rows
section
variable {prog : Program} {w : World} {A : Around} {E : Value → Shared → Prop} {s : Shared} {K : Frag} {x C L f : Addr} {h₀ : Heap} {m : Str → Option Value} {ox : Obj} {od : Option Obj} {b tb : Value}
theorem ne_bound (self : Value) : bindSpecial (.builtin "object.__ne__") self = pure (.builtin "object.__ne__", [self]) :=
  (Slot.of (T := "object") (name := "__ne__") (owner := "object") (n := "__ne__") (by rw [typeLookup_type, builtinLookup_eq_fast]; kernel_rfl) (by decide +kernel) (by decide +kernel) (by decide +kernel)
    (.inl (by decide +kernel)) (by rw [isSubtype_type]; kernel_rfl)).bind self
theorem bound_ne {M : Model} {args : List Value} {Q : Option Value → Shared → Prop} (X : K.In s.heap) (I : InstAt s.heap x ox C od) (hs : findIn K (.ref C) "__ne__" = some (some (.builtin "object.__ne__")))
    (h : wpAny M A (call (.builtin "object.__ne__") (.ref x :: args)) (fun v => Q (some v)) E s) : wpAny M A (callSpecialIfBound? (.ref x) "__ne__" args) Q E s := by
  simp only [callSpecialIfBound?, bindSpecialIfBound?]
  refine wpAny_holding (wpAny_bind (wpAny_bind (wpAny_bind (I.type.here ((looks_findIn X hs).here ?_)))))
  refine wpAny_bind (wpAny_askSetting (wpAny_ite ?_))
  have fin : wpAny M A (call (.builtin "object.__ne__") ([.ref x] ++ args) >>= fun v => pure (some v)) Q E s := wpAny_bind (wpAny_mono h (fun v s' z => wpAny_pure z) fun _ _ z => z)
  rw [ne_bound]
  split
  · exact wpAny_bind (wpAny_pure (wpAny_pure (by exact fin)))
  · exact wpAny_tryCatch (wpAny_bind (wpAny_pure (wpAny_pure (by exact fin))))
/-- what the own __eq__ answers, turned about -/
theorem object_ne {Q : Fin → Shared → Prop} (X : K.In s.heap) (I : InstAt s.heap x ox C od) (hu : A.units < cLine) (hs : findIn K (.ref C) "__eq__" = some (some (.ref f))) (hf : isFn K (.ref f) = true)
    (h : wpAny (model prog w) A (call (.ref f) [.ref x, b]) (fun v s' => ∃ c, v = .bool c ∧ Q (.done (.ret (.bool (!c)))) s') E s) : wpAny (model prog w) A (Builtin.«object.__ne__» ⟨[.ref x, b], []⟩) Q E s := by
  unfold Builtin.«object.__ne__»
  refine wpAny_bind (m := slotArgs "__ne__" 1 ⟨[.ref x, b], []⟩) (wpAny_pure ?_)
  refine wpAny_bind (wpAny_cRoomFor hu ?_)
  refine wpAny_bind (m := callSpecialIfBound? (.ref x) (Str.ofString "__eq__") [b]) (ifBound_K X I hs hf (wpAny_mono h (fun v s' z => ?_) fun _ _ z => z))
  obtain ⟨c, rfl, q⟩ := z
  exact wpAny_bind (m := truthy (.bool c)) (wpAny_truthy_bool (wpAny_pure q))
theorem cmp_ne {Q : Value → Shared → Prop} (hu : A.units + 1 < cLine) (F : Fr h₀ L s.heap m) (X₀ : K.In h₀) (I : InstAt s.heap x ox C od) (hb : Looks (model prog w) s.heap (typeOf b) tb) (hn : notFirst K C tb = true) (ho : subIn K (.ref C) (.type "object") = some true)
    (hne : findIn K (.ref C) "__ne__" = some (some (.builtin "object.__ne__"))) (hs : findIn K (.ref C) "__eq__" = some (some (.ref f))) (hf : isFn K (.ref f) = true)
    (h : wpAny (model prog w) A.in1 (call (.ref f) [.ref x, b]) (fun v s' => ∃ c, v = .bool c ∧ Q (.bool (!c)) s') E s) : wpAny (model prog w) A (richCompare .NotEq (.ref x) b) Q E s := by
  have X := X₀.keeps F.keep
  have one : wpAny (model prog w) A (tryCompare (.ref x) "__ne__" b) (fun r s' => ∃ v, r = some v ∧ Q v s') E s := by
    unfold tryCompare
    refine wpAny_bind (bound_ne X I hne (wpAny_call (codeAny_call_builtin (by decide +kernel) PySem.F.cmpEntry_ne
      (@check_slot (model prog w) _ _ _ "object.__ne__" "object" "__ne__" (.ref x) [b] [] _ PySem.F.cmpKind_ne PySem.F.cmpSplit_ne (I.type.andThen (looks_subIn X ho)) (PySem.F.cmpArgs_ne _ _) ?_))))
    refine object_ne (A := A.in1) X I hu hs hf (wpAny_mono h (fun v s' z => ?_) fun _ _ z => z)
    obtain ⟨c, rfl, q⟩ := z
    exact ⟨c, rfl, wpAny_pure ⟨_, rfl, q⟩⟩
  unfold richCompare
  simp only [oneThing_ref]
  refine wpAny_holding (wpAny_bind (wpAny_cRoomFor (Nat.lt_of_succ_lt hu) ?_))
  refine wpAny_bind (I.type.here (wpAny_bind (hb.here ?_)))
  have fin : wpAny (model prog w) A (tryCompare (.ref x) "__ne__" b) (fun r s' => wpAny (model prog w) A (match r with | some v => pure v | none => (do
      if let some v ← tryCompare b "__ne__" (.ref x) then return v
      pure (.bool (!(← isSame (.ref x) b))))) Q E s') E s := wpAny_mono one (fun r s' z => by
    obtain ⟨v, rfl, q⟩ := z
    exact wpAny_pure q) fun _ _ z => z
  split
  · rename_i q
    have e : subIn K tb (.ref C) = some false := by
      rcases Bool.or_eq_true_iff.mp hn with e | e
      · rw [beq_iff_eq.mp e] at q; simp at q
      · exact beq_iff_eq.mp e
    refine wpAny_bind ((looks_subIn X e).here ?_)
    simp only [Bool.false_eq_true, if_false]
    refine wpAny_bind (wpAny_mono one (fun r s' z => ?_) fun _ _ z => z)
    obtain ⟨v, rfl, hq⟩ := z
    exact wpAny_pure hq
  · refine wpAny_bind (wpAny_pure ?_)
    simp only [Bool.false_eq_true, if_false]
    refine wpAny_bind (wpAny_mono one (fun r s' z => ?_) fun _ _ z => z)
    obtain ⟨v, rfl, hq⟩ := z
    exact wpAny_pure hq
end
/-- what isinstance asks of a class -/
structure ClsI (K : Frag) (C : Addr) : Prop where
  cl : Cls K C
  at_ : findIn K (.ref C) "__class__" = some (some (.builtin "object.__class__"))
  sp : specialIn K (.builtin "object.__class__") "__get__" = some (some (.builtin "getset_descriptor.__get__"))
  tk : takesIn K (.builtin "object.__class__") = some true
  mro : mroIn K C (.type "object") = some true
/-- what has to be known of such a class -/
structure OwnEq (K : Frag) (C f : Addr) : Prop where
  eq : findIn K (.ref C) "__eq__" = some (some (.ref f))
  fn : isFn K (.ref f) = true
  ne : findIn K (.ref C) "__ne__" = some (some (.builtin "object.__ne__"))
  ob : subIn K (.ref C) (.type "object") = some true
section
variable {X : Cx} {CX : CXT} {k : Nat} {C f : Addr} {fd : FuncData} {ps : List Str} {sp : Sp} {E : XK}
def rEqO (C : Addr) (sp : Sp) (E : XK) : R2 := fun x y H Q => ∃ a b dx dy fs gs, x = .ref a ∧ y = .ref b ∧ H a = some (.ins C dx fs) ∧ H b = some (.ins C dy gs) ∧ sp [x, y] H (fun v H' => ∃ c, v = .bl c ∧ Q (.bl c) H') E
def rNeO (C : Addr) (sp : Sp) (E : XK) : R2 := fun x y H Q => ∃ a b dx dy fs gs, x = .ref a ∧ y = .ref b ∧ H a = some (.ins C dx fs) ∧ H b = some (.ins C dy gs) ∧ sp [x, y] H (fun v H' => ∃ c, v = .bl c ∧ Q (.bl (!c)) H') E
theorem op_neO (O : OwnEq X.K C f) (F : FnOk X.prog X.w X.K X.mg X.base CX k f fd ps sp) (hr : Room (k + 1) X.A) (hb : Binds X.K fd ps []) (hx : Passes CX X E) : OpR X (compareOp .NotEq) (rNeO C sp E) := by
  intro pins s σ H x y v u Q I rx ry h
  obtain ⟨a, b, dx, dy, fs, gs, rfl, rfl, ha, hb', pr⟩ := h
  cases rx
  cases ry
  obtain ⟨mA, J, _⟩ := ins_get I.hok ha
  obtain ⟨mB, J', _⟩ := ins_get I.hok hb'
  obtain ⟨o1, J, _⟩ := J.look
  obtain ⟨o2, J', _⟩ := J'.look
  obtain ⟨m, hF⟩ := I.fr
  have room : Room k X.A.in1 := hr.in1
  refine cmp_ne (tb := .ref C) (by have := hr.units; omega) hF I.ok.mod.kin J J'.type (by simp [notFirst]) O.ob O.ne O.eq O.fn ?_
  have e0 : Env0 X.prog X.w X.K X.mg X.base X.A.in1 X.stack s H := I.env0.in1
  have hl := F.len _ _ _ _ pr
  have r2 : Vals [V.ref a, V.ref b] [Value.ref a, Value.ref b] := .cons rfl (.cons rfl .nil)
  refine wpAny_call (codeAny_mono (F.run X.A.in1 X.stack s H ⟨[.ref a, .ref b], []⟩ [.ref a, .ref b] [.ref a, .ref b] _ E room e0 (by
    have z := hb s [.ref a, .ref b] I.kIn (by simpa using hl)
    simpa using z) r2 pr) fun r s' z => ?_)
  match r, z with
  | .error e, z => exact hx pins σ H s e s' I z
  | .ok (.ret t), z =>
    obtain ⟨zv, H', I', rz, c, ec, q⟩ := I.after z
    subst ec
    cases rz
    exact ⟨c, rfl, .bl (!c), H', I', rfl, q⟩
theorem op_eqO (O : OwnEq X.K C f) (F : FnOk X.prog X.w X.K X.mg X.base CX k f fd ps sp) (hr : Room (k + 1) X.A) (hb : Binds X.K fd ps []) (hx : Passes CX X E) : OpR X (compareOp .Eq) (rEqO C sp E) := by
  intro pins s σ H x y v u Q I rx ry h
  obtain ⟨a, b, dx, dy, fs, gs, rfl, rfl, ha, hb', pr⟩ := h
  cases rx
  cases ry
  obtain ⟨mA, J, _⟩ := ins_get I.hok ha
  obtain ⟨mB, J', _⟩ := ins_get I.hok hb'
  obtain ⟨o1, J, _⟩ := J.look
  obtain ⟨o2, J', _⟩ := J'.look
  obtain ⟨m, hF⟩ := I.fr
  refine cmp_K (op := .Eq) (tb := .ref C) hr.units0 hF I.ok.mod.kin J J'.type (by simp [notFirst]) O.eq O.fn ?_
  have hl := F.len _ _ _ _ pr
  have r2 : Vals [V.ref a, V.ref b] [Value.ref a, Value.ref b] := .cons rfl (.cons rfl .nil)
  refine wpAny_call (codeAny_mono (F.run X.A X.stack s H ⟨[.ref a, .ref b], []⟩ [.ref a, .ref b] [.ref a, .ref b] _ E (hr.mono (by omega)) I.env0 (by
    have z := hb s [.ref a, .ref b] I.kIn (by simpa using hl)
    simpa using z) r2 pr) fun r s' z => ?_)
  match r, z with
  | .error e, z => exact hx pins σ H s e s' I z
  | .ok (.ret t), z =>
    obtain ⟨zv, H', I', rz, c, ec, q⟩ := I.after z
    subst ec
    cases rz
    exact ⟨.bl c, H', I', rfl, q⟩
end
end CP

set_option Elab.async false
set_option linter.all false
set_option maxRecDepth 100000
set_option maxHeartbeats 4000000
set_option autoImplicit false
/-! plain tables as values: letters, products, sides, rows -/
namespace CP
open L2 PySem PyProof.Rows
def smallT : Str := "abcdefghijklmnopqrstuvwxyz"
def letB (z : Str) : Bool := decide (1 ≤ z.length ∧ z.length ≤ 10) && z.cps.toList.all fun c => decide (c ∈ smallT.cps.toList)
theorem small_low : ∀ c ∈ smallT.cps.toList, c < 0x110000 := by decide +kernel
theorem let_lay {z : Str} (h : letB z = true) : (PyData.str z).canLay0 = true := by
  unfold letB at h
  rw [Bool.and_eq_true] at h
  simp only [PyData.canLay0]
  show z.cps.all (· < 0x110000) = true
  rw [← Array.all_toList, List.all_eq_true]
  intro c hc
  exact decide_eq_true (small_low c (of_decide_eq_true (List.all_eq_true.mp h.2 c hc)))
theorem let_len {z : Str} (h : letB z = true) : 1 ≤ z.length ∧ z.length ≤ 10 := by
  unfold letB at h
  rw [Bool.and_eq_true] at h
  exact of_decide_eq_true h.1
abbrev Sd := Str × List Str × List Str
/-- a product of letters -/
def Lets (l : List Str) : Prop := (∀ x ∈ l, letB x = true) ∧ l.length ≤ 30
theorem Lets.lay {l : List Str} (h : Lets l) : ∀ x ∈ l, (PyData.str x).canLay0 = true := fun x hx => let_lay (h.1 x hx)
theorem Lets.perm {l m : List Str} (h : Lets l) (p : m.Perm l) : Lets m := ⟨fun x hx => h.1 x (p.mem_iff.mp hx), by rw [p.length_eq]; exact h.2⟩
theorem lets_nil : Lets [] := ⟨by simp, by simp⟩
/-- sides that make a table -/
structure Rows (rows : List Sd) : Prop where
  ne : rows ≠ []
  few : rows.length ≤ 20
  name : ∀ r ∈ rows, letB r.1 = true
  size : ∀ r ∈ rows, Lets r.2.1
  step : ∀ r ∈ rows, Lets r.2.2
  dis : (rows.map (·.1)).Nodup
  out : ∀ r ∈ rows, ∀ x ∈ r.2.1 ++ r.2.2, x ∉ rows.map (·.1)
def SideAt (H : Hp) (v : V) (r : Sd) : Prop := ∃ t a b, v = .ref t ∧ H t = some (.tup [.str r.1, .ref a, .ref b]) ∧ H a = some (.lst (strL r.2.1)) ∧ H b = some (.lst (strL r.2.2))
theorem SideAt.mono {H H' : Hp} {v : V} {r : Sd} (h : SideAt H v r) (s : Same H H') : SideAt H' v r := by
  obtain ⟨t, a, b, e, h1, h2, h3⟩ := h
  exact ⟨t, a, b, e, s _ _ h1, s _ _ h2, s _ _ h3⟩
def RowsAt (H : Hp) (p : Addr) (rows : List Sd) : Prop := ∃ vs, H p = some (.lst vs) ∧ Paired (SideAt H) vs rows
theorem RowsAt.mono {H H' : Hp} {p : Addr} {rows : List Sd} (h : RowsAt H p rows) (s : Same H H') : RowsAt H' p rows := by
  obtain ⟨vs, e, pr⟩ := h
  exact ⟨vs, s _ _ e, pd_mono pr fun _ _ z => SideAt.mono z s⟩
theorem sides_mono {H H' : Hp} {vs : List V} {rows : List Sd} (h : Paired (SideAt H) vs rows) (s : Same H H') : Paired (SideAt H') vs rows := pd_mono h fun _ _ z => SideAt.mono z s
/-! as data -/
def sideD (r : Sd) : PyData := .tuple [.str r.1, .list (r.2.1.map .str), .list (r.2.2.map .str)]
theorem side_dp {K : PySem.W.Frag} {H : Hp} {v : V} {r : Sd} (h : SideAt H v r) : Dp K H v (sideD r) := by
  obtain ⟨t, a, b, rfl, h1, h2, h3⟩ := h
  exact .tup (.of h1) (.cons (.str _) (.cons (.lst (.of h2) (dpA_strs _)) (.cons (.lst (.of h3) (dpA_strs _)) .nil)))
theorem rows_dp {K : PySem.W.Frag} {H : Hp} {vs : List V} {rows : List Sd} (h : Paired (SideAt H) vs rows) : DpAll K H vs (rows.map sideD) := by
  induction h with
  | nil => exact .nil
  | cons h _ ih => exact .cons (side_dp h) ih
theorem side_lay {r : Sd} (h0 : (PyData.str r.1).canLay0 = true) (h1 : ∀ x ∈ r.2.1, (PyData.str x).canLay0 = true) (h2 : ∀ x ∈ r.2.2, (PyData.str x).canLay0 = true) : (sideD r).canLay0 = true ∧ (sideD r).depth = 2 := by
  obtain ⟨a1, a2⟩ := lay_strs h1
  obtain ⟨b1, b2⟩ := lay_strs h2
  have h0' := h0
  simp only [PyData.canLay0] at h0'
  refine ⟨by simp [sideD, PyData.canLay0, PyData.canLayAll0, a1, b1, h0'], ?_⟩
  simp only [sideD, PyData.depth, PyData.depthAll, a2, b2]
  rfl
theorem rows_lay {rows : List Sd} (h : ∀ r ∈ rows, (sideD r).canLay0 = true ∧ (sideD r).depth = 2) : PyData.canLayAll0 (rows.map sideD) = true ∧ PyData.depthAll (rows.map sideD) ≤ 2 := by
  induction rows with
  | nil => exact ⟨by simp [PyData.canLayAll0], by simp [PyData.depthAll]⟩
  | cons r rows ih =>
    obtain ⟨i1, i2⟩ := ih fun x hx => h x (List.mem_cons_of_mem _ hx)
    obtain ⟨a1, a2⟩ := h r (List.mem_cons_self ..)
    refine ⟨by simp [PyData.canLayAll0, a1, i1], ?_⟩
    simp only [List.map_cons, PyData.depthAll]
    omega
theorem Rows.lay {rows : List Sd} (h : Rows rows) : ∀ r ∈ rows, (sideD r).canLay0 = true ∧ (sideD r).depth = 2 := fun r hr => side_lay (let_lay (h.name r hr)) (h.size r hr).lay (h.step r hr).lay
theorem Rows.dp {K : PySem.W.Frag} {H : Hp} {vs : List V} {rows : List Sd} (h : Rows rows) (p : Paired (SideAt H) vs rows) : ∃ ds, DpAll K H vs ds ∧ PyData.canLayAll0 ds = true ∧ PyData.depthAll ds ≤ 60 :=
  ⟨_, rows_dp p, (rows_lay h.lay).1, Nat.le_trans (rows_lay h.lay).2 (by decide)⟩
section
variable {K : PySem.W.Frag} {H : Hp} {Q : VK} {a b : Addr} {xs ys : List Str} {vs : List V}
theorem tnil_eqX (h : SqT K H a vs) (h2 : SqT K H b []) (hd : ∃ ds, DpAll K H vs ds ∧ PyData.canLayAll0 ds = true ∧ PyData.depthAll ds ≤ 60) (q : Q (.bl vs.isEmpty) H) : rEqX K (.ref a) (.ref b) H Q := by
  obtain ⟨ds, d1, d2, d3⟩ := hd
  refine .inr (.inl ⟨.tuple ds, .tuple [], .tup h d1, .tup h2 .nil, ?_, ?_, ?_⟩)
  · exact Bool.and_eq_true_iff.mpr ⟨by simp only [PyData.canLay0]; exact d2, decide_eq_true (by simp only [PyData.depth]; omega)⟩
  · decide +kernel
  · cases d1 with
    | nil => simpa [PyData.eqv, PyData.eqvAll] using q
    | cons _ _ => simpa [PyData.eqv, PyData.eqvAll] using q
theorem nil_eqX0 (h : SqL K H a []) (h2 : SqL K H b []) (q : Q (.bl true) H) : rEqX K (.ref a) (.ref b) H Q := nil_eqX h h2 ⟨[], .nil, by decide +kernel, by decide +kernel⟩ q
theorem nil_neX0 (h : SqL K H a []) (h2 : SqL K H b []) (q : Q (.bl false) H) : rNeX K (.ref a) (.ref b) H Q := nil_neX h h2 ⟨[], .nil, by decide +kernel, by decide +kernel⟩ q
theorem nil_eqX1 {v : V} (h : SqL K H a (v :: vs)) (h2 : SqL K H b []) (hd : ∃ ds, DpAll K H (v :: vs) ds ∧ PyData.canLayAll0 ds = true ∧ PyData.depthAll ds ≤ 60) (q : Q (.bl false) H) : rEqX K (.ref a) (.ref b) H Q := nil_eqX h h2 hd q
theorem nil_neX1 {v : V} (h : SqL K H a (v :: vs)) (h2 : SqL K H b []) (hd : ∃ ds, DpAll K H (v :: vs) ds ∧ PyData.canLayAll0 ds = true ∧ PyData.depthAll ds ≤ 60) (q : Q (.bl true) H) : rNeX K (.ref a) (.ref b) H Q := nil_neX h h2 hd q
theorem r_inStr {x : Str} (h : SqL K H a (strL xs)) (q : Q (.bl (decide (x ∈ xs))) H) : rIn K false (.str x) (.ref a) H Q := r_in h rfl (strL_flat _) (by rw [inV_str]; exact q)
theorem r_niStr {x : Str} (h : SqL K H a (strL xs)) (q : Q (.bl (!decide (x ∈ xs))) H) : rIn K true (.str x) (.ref a) H Q := r_in h rfl (strL_flat _) (by rw [inV_str]; exact q)
theorem r_slA {lo hi : Option Int} (h : SqT K H a vs) (hw : ¬ (HT.sIx vs.length 0 lo = 0 ∧ HT.sIx vs.length vs.length hi = vs.length)) (q : ∀ l H', H l = none → Same H H' → H' l = some (.tup (cutV vs lo hi)) → Q (.ref l) H') : rSlA K (.ref a) lo hi H Q :=
  ⟨a, vs, rfl, h, fun z => absurd z hw, fun _ p hp => q p _ hp (same_new hp) upd_same⟩
theorem eqX_d {d e : PyData} {x y : V} (h1 : Dp K H x d) (h2 : Dp K H y e) (s1 : d.canLay0 = true) (s2 : e.canLay0 = true) (d1 : d.depth ≤ 60) (d2 : e.depth ≤ 60) (q : Q (.bl (PyData.eqv d e)) H) : rEqX K x y H Q :=
  .inr (.inl ⟨d, e, h1, h2, Bool.and_eq_true_iff.mpr ⟨s1, decide_eq_true (by omega)⟩, Bool.and_eq_true_iff.mpr ⟨s2, decide_eq_true (by omega)⟩, q⟩)
theorem neX_d {d e : PyData} {x y : V} (h1 : Dp K H x d) (h2 : Dp K H y e) (s1 : d.canLay0 = true) (s2 : e.canLay0 = true) (d1 : d.depth ≤ 60) (d2 : e.depth ≤ 60) (q : Q (.bl (!PyData.eqv d e)) H) : rNeX K x y H Q :=
  .inr (.inl ⟨d, e, h1, h2, Bool.and_eq_true_iff.mpr ⟨s1, decide_eq_true (by omega)⟩, Bool.and_eq_true_iff.mpr ⟨s2, decide_eq_true (by omega)⟩, q⟩)
end
/-- what an item of the rows is -/
theorem side_at {H H' : Hp} {vs : List V} {rows : List Sd} (pr : Paired (SideAt H) vs rows) (s : Same H H') {i : Nat} {x : V} (hx : vs[i]? = some x) :
    ∃ r t a b, rows[i]? = some r ∧ r ∈ rows ∧ x = .ref t ∧ H' t = some (.tup [.str r.1, .ref a, .ref b]) ∧ H' a = some (.lst (strL r.2.1)) ∧ H' b = some (.lst (strL r.2.2)) := by
  obtain ⟨r, hr, t, a, b, e, h1, h2, h3⟩ := pd_get pr hx
  exact ⟨r, t, a, b, hr, List.mem_of_getElem? hr, e, s _ _ h1, s _ _ h2, s _ _ h3⟩
/-! tables as objects -/
def srow (r : Sd) : Sd := (r.1, srt r.2.1, srt r.2.2)
def TabAt (C : Addr) (H : Hp) (o : Addr) (rows : List Sd) : Prop := ∃ dx p, H o = some (.ins C dx [("row", .ref p)]) ∧ RowsAt H p rows
theorem TabAt.mono {C : Addr} {H H' : Hp} {o : Addr} {rows : List Sd} (h : TabAt C H o rows) (s : Same H H') : TabAt C H' o rows := by
  obtain ⟨dx, p, h1, h2⟩ := h
  exact ⟨dx, p, s _ _ h1, h2.mono s⟩
theorem Rows.srow {rows : List Sd} (h : Rows rows) : Rows (rows.map srow) := by
  have e : (rows.map CP.srow).map (·.1) = rows.map (·.1) := by rw [List.map_map]; rfl
  refine ⟨fun z => h.ne (List.map_eq_nil_iff.mp z), by rw [List.length_map]; exact h.few, fun r hr => ?_, fun r hr => ?_, fun r hr => ?_, by rw [e]; exact h.dis, fun r hr x hx => ?_⟩
  · obtain ⟨u, hu, rfl⟩ := List.mem_map.mp hr; exact h.name u hu
  · obtain ⟨u, hu, rfl⟩ := List.mem_map.mp hr; exact (h.size u hu).perm (srt_perm _)
  · obtain ⟨u, hu, rfl⟩ := List.mem_map.mp hr; exact (h.step u hu).perm (srt_perm _)
  · obtain ⟨u, hu, rfl⟩ := List.mem_map.mp hr
    rw [e]
    refine h.out u hu x ?_
    rcases List.mem_append.mp hx with z | z
    · exact List.mem_append_left _ (mem_srt.mp z)
    · exact List.mem_append_right _ (mem_srt.mp z)
section
variable {K : PySem.W.Frag} {w : World} {σ : L2.St} {H : Hp} {Q : VK} {a o C dx : Addr} {l : List Str} {fs : List (Str × V)} {f : Str} {v : V} {te ta tv : TE} {tas : TA} {D : Ends}
theorem r_sortS (h : SqL K H a (strL l)) (hn : l.length < 64) (q : ∀ p H', H p = none → Same H H' → H' p = some (.lst (strL (srt l))) → Q (.ref p) H') : rSortedS K [.ref a] H Q :=
  ⟨a, l, rfl, h, hn, fun ys p hp hs h0 => by
    rw [srt_of hp hs]
    exact q p _ h0 (same_new h0) upd_same⟩
theorem r_tfld (q : ta σ H fun x H1 => ∃ a C dx fs v, x = .ref a ∧ H1 a = some (.ins C dx fs) ∧ Cls K C ∧ NoAttr K C f ∧ fs.lookup f = some v ∧ Q v H1) : tFld K ta f σ H Q := q
theorem r_fget {P : V → Prop} (h : H o = some (.ins C dx fs)) (c : Cls K C) (n : NoAttr K C f) (l : fs.lookup f = some v) (q : P v) : ∃ a C dx fs v, V.ref o = .ref a ∧ H a = some (.ins C dx fs) ∧ Cls K C ∧ NoAttr K C f ∧ fs.lookup f = some v ∧ P v := ⟨o, C, dx, fs, v, rfl, h, c, n, l, q⟩
theorem r_sfld (q : tv σ H fun y H1 => ta σ H1 fun x H2 => ∃ a C dx fs, x = .ref a ∧ H2 a = some (.ins C dx fs) ∧ Cls K C ∧ NoAttr K C f ∧ fs.length < 1000 ∧ D.nx σ (upd H2 a (.ins C dx (putF f y fs)))) : sFld K ta tv f D σ H := q
theorem r_fput {N : Hp → Prop} (h : H o = some (.ins C dx fs)) (c : Cls K C) (n : NoAttr K C f) (l : fs.length < 1000) (q : ∀ H', SB o H H' → H' o = some (.ins C dx (putF f v fs)) → N H') : ∃ a C dx fs, V.ref o = .ref a ∧ H a = some (.ins C dx fs) ∧ Cls K C ∧ NoAttr K C f ∧ fs.length < 1000 ∧ N (upd H a (.ins C dx (putF f v fs))) :=
  ⟨o, C, dx, fs, rfl, h, c, n, l, q _ sb_upd upd_same⟩
theorem r_make {sp : Sp} {dvs : List V} {E : XK} (q : tas σ H fun vs H1 => ∀ x dx H', H1 x = none → Same H1 H' → H' x = some (.ins C dx []) → sp (.ref x :: (vs ++ dvs)) H' (fun v H2 => v = .non ∧ Q (.ref x) H2) E) (mono : ∀ {Q Q' : List V → Hp → Prop}, (∀ vs H, Q vs H → Q' vs H) → tas σ H Q → tas σ H Q') : tMake C sp dvs E tas σ H Q := by
  refine mono (fun vs H1 h => ?_) q
  intro x dx hx hdx ne
  refine h x dx _ hx (fun b o hb => ?_) upd_same
  rw [upd_ne (ne_of_none hb hx), upd_ne (ne_of_none hb hdx)]
  exact hb
theorem r_mk1 {P : Addr → Hp → Prop} (q : ∀ x dx H', H x = none → Same H H' → H' x = some (.ins C dx []) → P x H') : ∀ x dx, H x = none → H dx = none → dx ≠ x → P x (upd (upd H dx (.own x)) x (.ins C dx [])) := fun x dx hx hdx ne =>
  q x dx _ hx (fun b o hb => by
    rw [upd_ne (ne_of_none hb hx), upd_ne (ne_of_none hb hdx)]
    exact hb) upd_same
theorem r_tmake {sp : Sp} {dvs : List V} {E : XK} (q : tas σ H fun vs H1 => ∀ x dx, H1 x = none → H1 dx = none → dx ≠ x → sp (.ref x :: (vs ++ dvs)) (upd (upd H1 dx (.own x)) x (.ins C dx [])) (fun v H2 => v = .non ∧ Q (.ref x) H2) E) : tMake C sp dvs E tas σ H Q := q
theorem r_tmeth {sp : Sp} {dvs : List V} {E : XK} {m : Str} (q : ta σ H fun x H1 => ∃ a dx fs, x = .ref a ∧ H1 a = some (.ins C dx fs) ∧ fs.lookup m = none ∧ tas σ H1 fun vs H2 => sp (x :: (vs ++ dvs)) H2 Q E) : tMeth C m sp dvs E ta tas σ H Q := q
end
section
variable {K : PySem.W.Frag} {H : Hp} {Q : VK} {o C dx : Addr} {fs : List (Str × V)}
theorem r_isiC (h : H o = some (.ins C dx fs)) (c : ClsI K C) (q : Q (.bl true) H) : rIsi K [.ref o, .ref C] H Q := ⟨.ref o, .ref C, .ref C, .ref C, true, rfl, .own C, .base (.ins h c.cl c.at_ c.sp c.tk c.mro), by simp [PySem.W.kitOne], q⟩
end
theorem eqv_side (r s : Sd) : PyData.eqv (sideD r) (sideD s) = decide (r = s) := by
  obtain ⟨a, b, c⟩ := r
  obtain ⟨d, e, f⟩ := s
  simp only [sideD, PyData.eqv, PyData.eqvAll, eqv_strs]
  by_cases h1 : a = d <;> by_cases h2 : b = e <;> by_cases h3 : c = f <;> simp [h1, h2, h3]
theorem eqv_rows : ∀ rs ss : List Sd, PyData.eqvAll (rs.map sideD) (ss.map sideD) = decide (rs = ss)
  | [], [] => by simp [PyData.eqvAll]
  | [], _ :: _ => by simp [PyData.eqvAll]
  | _ :: _, [] => by simp [PyData.eqvAll]
  | a :: r, b :: t => by
    simp only [List.map_cons, PyData.eqvAll, eqv_side, eqv_rows r t]
    by_cases h : a = b <;> by_cases h' : r = t <;> simp [h, h']
/-- all letters of the products, each one once, in order -/
def sizesM (rows : List Sd) : List Str := sset (rows.flatMap fun r => r.2.1 ++ r.2.2)
section
variable {K : PySem.W.Frag} {a : Addr} {g : TG} {tt : TT} {te : TE} {vs : List Nat} {σ : L2.St} {H1 : Hp} {D : Addr} {Qd : Hp → Prop}
/-- a comprehension over texts that leaves some out -/
theorem lc_strF {l : List Str} (p : Str → Bool) (hD : H1 D = none) (ha : SqL K H1 a (strL l)) (hz : l.length < sizeLine)
    (hs : ∀ (i : Nat) (x : Str) (H : Hp), l[i]? = some x → Same H1 H → Turn (β := V) g tt te vs σ (fun _ x b => x = b) D H (.str x) (if p x = true then some (.str x) else none)) (hd : ∀ H, Same H1 H → H D = some (.lst (strL (l.filter p))) → Qd H) :
    ∃ W : Nat → Nat → Hp → Prop, (∃ m, W 0 m (upd H1 D (.lst []))) ∧ ∀ i m H, W i m H →
      ((Itl K a).stop i H ∧ Qd H) ∨ ((Itl K a).go i H ∧ ∃ Nx : Hp → Prop, (∀ H', Nx H' → ∃ m', m' < m ∧ W (i + 1) m' H') ∧ ∀ x H', (Itl K a).yld i H x H' → g x (wipe σ vs) H' fun σ2 H2 => wipe σ2 vs = wipe σ vs ∧ tt σ2 H2 fun b H3 =>
        if b = true then te σ2 H3 fun y H4 => ∃ acc, H4 D = some (.lst acc) ∧ acc.length < sizeLine ∧ Nx (upd H4 D (.lst (acc ++ [y]))) else Nx H3) := by
  refine lc_tell (β := V) (fun _ x b => x = b) (l.map fun x => if p x = true then some (.str x) else none) hD ha (by rw [strL_len, List.length_map]) (by rw [List.length_map]; exact hz) (fun _ _ _ _ _ z => z) (fun i x o H hx ho s1 _ => ?_) fun H acc s1 hacc pp => ?_
  · obtain ⟨z, hz, rfl⟩ := strL_get hx
    have e : o = if p z = true then some (.str z) else none := by
      rw [List.getElem?_map, hz] at ho
      exact (Option.some.inj ho).symm
    subst e
    exact hs i z H hz s1
  · have e : acc = strL (l.filter p) := by
      rw [pd_eq pp, List.filterMap_map]
      clear pp hs hz ha hd
      induction l with
      | nil => rfl
      | cons x l ih =>
        by_cases c : p x = true
        · rw [List.filterMap_cons_some (b := V.str x) (by show (if p x = true then some (V.str x) else none) = _; rw [if_pos c]), ih, List.filter_cons_of_pos c]
          rfl
        · rw [List.filterMap_cons_none (by show (if p x = true then some (V.str x) else none) = _; rw [if_neg c]), ih, List.filter_cons_of_neg c]
    rw [e] at hacc
    exact hd H s1 hacc
end
end CP

set_option Elab.async false
set_option linter.all false
set_option maxRecDepth 100000
set_option maxHeartbeats 4000000
set_option autoImplicit false
/-! lists of texts: remove, count -/
namespace CP
open L2 PySem PySem.Spec PyProof.Rows
def isTxt (k : Str) : Value → Bool
  | .str z _ => z == k
  | _ => false
theorem txt_beq (x y : Str) : (x.cps.toList == y.cps.toList) = (x == y) := by
  rw [Bool.eq_iff_iff, beq_iff_eq, beq_iff_eq]
  refine ⟨fun h => ?_, fun h => congrArg (fun z : Str => z.cps.toList) h⟩
  cases x
  cases y
  exact congrArg Str.mk (Array.toList_inj.mp h)
theorem txt_erase : ∀ (l : List Str) (j : Nat), strL (l.eraseIdx j) = (strL l).eraseIdx j
  | [], 0 => rfl
  | [], _ + 1 => rfl
  | _ :: _, 0 => rfl
  | z :: l, j + 1 => congrArg (List.cons (V.str z)) (txt_erase l j)
theorem txt_gives {k : Str} {t : Tok} : ∀ {l : List Str} {us : List Value}, Vals (strL l) us → ∀ y ∈ us, MeetsSeq.EqGives y (.str k t) (isTxt k y)
  | [], _, .nil, y, hy => nomatch hy
  | z :: l, _, .cons (l₂ := us) ⟨tz, ez⟩ r, y, hy => by
    subst ez
    rcases List.mem_cons.mp hy with rfl | hy
    · have := PySem.SeqRoads2.EqGives.str z k tz t
      rw [txt_beq] at this
      exact this
    · exact txt_gives (l := l) r y hy
theorem txt_count {k : Str} : ∀ {l : List Str} {us : List Value}, Vals (strL l) us → us.countP (isTxt k) = l.count k
  | [], _, .nil => rfl
  | z :: l, _, .cons (l₂ := us) ⟨tz, ez⟩ r => by
    subst ez
    have ih := txt_count (k := k) (l := l) r
    rw [List.countP_cons, List.count_cons, ih]
    rfl
theorem erase_at {k : Str} : ∀ {l : List Str}, k ∈ l → ∃ j, l[j]? = some k ∧ (∀ m, m < j → l[m]? ≠ some k) ∧ l.erase k = l.eraseIdx j
  | [], h => nomatch h
  | z :: l, h => by
    by_cases e : z = k
    · subst e
      exact ⟨0, rfl, fun _ h => absurd h (Nat.not_lt_zero _), by rw [List.erase_cons_head]; rfl⟩
    · obtain ⟨j, h1, h2, h3⟩ := erase_at (l := l) ((List.mem_cons.mp h).resolve_left (Ne.symm e))
      refine ⟨j + 1, h1, fun m hm => ?_, ?_⟩
      · cases m with
        | zero => exact fun z => e (Option.some.inj z)
        | succ m => exact h2 m (by omega)
      · rw [List.erase_cons_tail (by simpa using e), h3]
        rfl
section
variable {X : Cx}
def rRemS : V → List V → Hp → VK → Prop := fun x xs H Q => ∃ (l : Addr) (ns : List Str) (k : Str), x = .ref l ∧ xs = [.str k] ∧ H l = some (.lst (strL ns)) ∧ k ∈ ns ∧ Q .non (upd H l (.lst (strL (ns.erase k))))
theorem mt_remS : MtM X "list.remove" rRemS := by
  intro pins s σ H x xs v us Q I rx rxs ⟨l, ns, k, ex, exs, hH, hk, q⟩
  subst ex exs
  obtain ⟨j, hj, hno, hr⟩ := erase_at hk
  cases rx
  obtain ⟨u, eu, t, et⟩ := rxs.one
  subst eu et
  obtain ⟨z, its, n, r, hl, e⟩ := I.lstM hH
  have gv := txt_gives (k := k) (t := t) r
  have ln : its.length = ns.length := by rw [← r.length, strL_len]
  rw [strL_len] at hl z
  have jn : j < ns.length := (List.getElem?_eq_some_iff.mp hj).1
  have at_ : ∀ (m : Nat) (hm : m < its.toArray.size), ∃ tm, its.toArray[m] = .str (ns[m]'(by rw [List.size_toArray] at hm; omega)) tm := fun m hm => by
    have hm' : m < ns.length := by rw [List.size_toArray] at hm; omega
    obtain ⟨w, hw, tm, ew⟩ := r.get (i := m) (x := .str ns[m]) (by unfold strL; rw [List.getElem?_map, List.getElem?_eq_getElem hm']; rfl)
    subst ew
    obtain ⟨_, h2⟩ := List.getElem?_eq_some_iff.mp hw
    exact ⟨tm, by simpa using h2⟩
  have js : j < its.toArray.size := by rw [List.size_toArray]; omega
  refine call_meets PySem.F.slot_list_remove ⟨_, e, rfl⟩ PySem.F.entry_list_remove (PySem.F.args_list_remove_2 _ _)
    (MeetsSeq.list_remove l its.toArray n (.str k t) (isTxt k) (fun y hy => gv y (by simpa using hy)) j js ?_ (fun m hm lt => ?_) (by rw [List.size_toArray]; omega)) ⟨e, .non, _, I.lset (its' := its.eraseIdx j) (t' := s.toks) (ys := strL (ns.erase k)) hH e ?_ ?_ ?_, rfl, q⟩
  · obtain ⟨tm, em⟩ := at_ j js
    rw [em, (List.getElem?_eq_some_iff.mp hj).2]
    exact beq_self_eq_true k
  · obtain ⟨tm, em⟩ := at_ m hm
    rw [em]
    refine beq_eq_false_iff_ne.mpr fun h => hno m lt ?_
    have hm' : m < ns.length := by omega
    rw [List.getElem?_eq_getElem hm', h]
  · show its.toArray.eraseIdxIfInBounds j = (its.eraseIdx j).toArray
    rw [List.eraseIdxIfInBounds_toArray]
  · have e1 : strL (ns.erase k) = (strL ns).eraseIdx j := by
      rw [hr]
      exact txt_erase ns j
    rw [e1]
    exact r.eraseIdx j
  · rw [strL_len]
    have := List.length_erase_le (a := k) (l := ns)
    omega
def rCntS (K : PySem.W.Frag) : V → List V → Hp → VK → Prop := fun x xs H Q => ∃ (p : Addr) (ns : List Str) (k : Str), x = .ref p ∧ xs = [.str k] ∧ SqL K H p (strL ns) ∧ Q (.int (ns.count k : Nat)) H
theorem mt_cntS : MtR X "list.count" (rCntS X.K) := by
  intro pins s σ H x xs v us Q I rx rxs ⟨p, ns, k, ex, exs, hs, q⟩
  subst ex exs
  cases rx
  obtain ⟨u, eu, t, et⟩ := rxs.one
  subst eu et
  obtain ⟨its, rv, ⟨⟨cls, dd, data, sl⟩, n, ho, hc, hdn, hd⟩, hlen⟩ := I.list hs
  simp only at hc hd
  subst hc hd
  have gv := txt_gives (k := k) (t := t) rv
  have cn : its.toArray.toList.countP (isTxt k) = ns.count k := txt_count rv
  refine call_meets PySem.F.slot_list_count ⟨_, ho, rfl⟩ PySem.F.entry_list_count (PySem.F.args_list_count_2 _ _)
    (SeqAt.list_countAt p its.toArray n dd sl (.str k t) (isTxt k)) ⟨ho, fun y hy => (gv y (by simpa using hy)).at _ _, .int (ns.count k : Nat), H, I.tok _, ⟨s.toks, ?_⟩, q⟩
  show Value.int ((its.toArray.toList.countP (isTxt k) : Nat) : Int) s.toks = _
  rw [cn]
end
section
variable {K : PySem.W.Frag} {H : Hp} {Q : VK} {l : Addr} {ns : List Str} {xs : List V} {k : Str} {i : Int} {y : V}
theorem r_remS (h : H l = some (.lst (strL ns))) (hk : k ∈ ns) (q : ∀ H', SB l H H' → H' l = some (.lst (strL (ns.erase k))) → Q .non H') : rRemS (.ref l) [.str k] H Q := ⟨l, ns, k, rfl, rfl, h, hk, q _ sb_upd upd_same⟩
theorem r_cntS (h : SqL K H l (strL ns)) (q : Q (.int (ns.count k : Nat)) H) : rCntS K (.ref l) [.str k] H Q := ⟨l, ns, k, rfl, rfl, h, q⟩
def rInsL : V → List V → Hp → VK → Prop := fun x vs H Q => ∃ (l : Addr) (xs : List V) (i : Int) (y : V), x = .ref l ∧ vs = [.int i, y] ∧ H l = some (.lst xs) ∧ xs.length < sizeLine ∧ 0 ≤ i ∧ i < 2 ^ 63 ∧ Q .non (upd H l (.lst (xs.take i.toNat ++ [y] ++ xs.drop i.toNat)))
theorem r_insL (h : H l = some (.lst xs)) (hz : xs.length < sizeLine) (h0 : 0 ≤ i) (h1 : i < 2 ^ 63) (q : ∀ H', SB l H H' → H' l = some (.lst (xs.take i.toNat ++ [y] ++ xs.drop i.toNat)) → Q .non H') : rInsL (.ref l) [.int i, y] H Q := ⟨l, xs, i, y, rfl, rfl, h, hz, h0, h1, q _ sb_upd upd_same⟩
end
theorem mt_insL {X : Cx} : MtR X "list.insert" rInsL := mt_insert
end CP

set_option Elab.async false
set_option linter.all false
set_option maxRecDepth 100000
set_option maxHeartbeats 4000000
set_option autoImplicit false
/-! what the functions of plain compute -/
namespace CP
open L2 PySem PyProof.Rows
theorem drop_succ {α : Type} {l : List α} {i : Nat} {x : α} (h : l[i]? = some x) : l.drop i = x :: l.drop (i + 1) := by
  obtain ⟨h1, h2⟩ := List.getElem?_eq_some_iff.mp h
  rw [List.drop_eq_getElem_cons h1, h2]
/-- a product taken out of another -/
def restOf : List Str → List Str → Option (List Str)
  | l, [] => some l
  | l, k :: o => if k ∈ l then restOf (l.erase k) o else none
theorem restOf_len : ∀ {o l m : List Str}, restOf l o = some m → m.length ≤ l.length
  | [], l, m, h => by cases h; exact Nat.le_refl _
  | k :: o, l, m, h => by
    unfold restOf at h
    split at h
    · exact Nat.le_trans (restOf_len h) List.length_erase_le
    · cases h
theorem restOf_mem : ∀ {o l m : List Str}, restOf l o = some m → ∀ x ∈ m, x ∈ l
  | [], l, m, h, x, hx => by cases h; exact hx
  | k :: o, l, m, h, x, hx => by
    unfold restOf at h
    split at h
    · exact List.mem_of_mem_erase (restOf_mem h x hx)
    · cases h
/-- the first side's step times its size divides the second one's step -/
def aheadB (r s : Sd) : Bool := (restOf s.2.2 (r.2.1 ++ r.2.2)).isSome
/-- the sides laid one by one in their order -/
def ordGo : List Sd → List Sd → List Sd ⊕ (Sd × Sd)
  | found, [] => .inl found
  | found, r :: rs => if r.2.1 = [] then ordGo found rs else
      match found.filter fun f => !aheadB f r && !aheadB r f with
      | w :: _ => .inr (w, r)
      | [] => ordGo (found.take (found.filter fun f => aheadB f r).length ++ [r] ++ found.drop (found.filter fun f => aheadB f r).length) rs
def orderM (rows : List Sd) : List Sd ⊕ (Sd × Sd) := ordGo [] rows
theorem ordGo_inl : ∀ {rs f fs : List Sd}, ordGo f rs = .inl fs → (∀ x ∈ fs, x ∈ f ∨ x ∈ rs) ∧ fs.length ≤ f.length + rs.length
  | [], f, fs, h => by cases h; exact ⟨fun x hx => .inl hx, by simp⟩
  | r :: rs, f, fs, h => by
    unfold ordGo at h
    split at h
    · obtain ⟨h1, h2⟩ := ordGo_inl h
      exact ⟨fun x hx => (h1 x hx).imp id (List.mem_cons_of_mem _), by rw [List.length_cons]; omega⟩
    · split at h
      · cases h
      · obtain ⟨h1, h2⟩ := ordGo_inl h
        refine ⟨fun x hx => ?_, ?_⟩
        · rcases h1 x hx with z | z
          · rcases List.mem_append.mp z with z | z
            · rcases List.mem_append.mp z with z | z
              · exact .inl (List.mem_of_mem_take z)
              · exact .inr (by rw [List.mem_singleton.mp z]; exact List.mem_cons_self ..)
            · exact .inl (List.mem_of_mem_drop z)
          · exact .inr (List.mem_cons_of_mem _ z)
        · rw [List.length_append, List.length_append, List.length_take, List.length_drop, List.length_singleton] at h2
          rw [List.length_cons]
          omega
theorem ordGo_inr : ∀ {rs f : List Sd} {u v : Sd}, ordGo f rs = .inr (u, v) → (u ∈ f ∨ u ∈ rs) ∧ v ∈ rs
  | [], f, u, v, h => by cases h
  | r :: rs, f, u, v, h => by
    unfold ordGo at h
    split at h
    · obtain ⟨h1, h2⟩ := ordGo_inr h
      exact ⟨h1.imp id (List.mem_cons_of_mem _), List.mem_cons_of_mem _ h2⟩
    · split at h
      · rename_i w ws e
        cases h
        have : u ∈ f.filter fun f => !aheadB f r && !aheadB r f := by rw [e]; exact List.mem_cons_self ..
        exact ⟨.inl (List.mem_filter.mp this).1, List.mem_cons_self ..⟩
      · obtain ⟨h1, h2⟩ := ordGo_inr h
        refine ⟨?_, List.mem_cons_of_mem _ h2⟩
        rcases h1 with z | z
        · rcases List.mem_append.mp z with z | z
          · rcases List.mem_append.mp z with z | z
            · exact .inl (List.mem_of_mem_take z)
            · exact .inr (by rw [List.mem_singleton.mp z]; exact List.mem_cons_self ..)
          · exact .inl (List.mem_of_mem_drop z)
        · exact .inr (List.mem_cons_of_mem _ z)
theorem order_inl {rows fs : List Sd} (h : orderM rows = .inl fs) : (∀ x ∈ fs, x ∈ rows) ∧ fs.length ≤ rows.length := by
  obtain ⟨h1, h2⟩ := ordGo_inl h
  exact ⟨fun x hx => (h1 x hx).resolve_left (fun z => nomatch z), by simpa using h2⟩
theorem order_inr {rows : List Sd} {u v : Sd} (h : orderM rows = .inr (u, v)) : u ∈ rows ∧ v ∈ rows := by
  obtain ⟨h1, h2⟩ := ordGo_inr h
  exact ⟨h1.resolve_left (fun z => nomatch z), h2⟩
theorem filter_opt {α : Type} (p : α → Bool) (l : List α) : (l.map fun r => if p r = true then some r else none).filterMap id = l.filter p := by
  induction l with
  | nil => rfl
  | cons a l ih =>
    rw [List.map_cons, List.filter_cons]
    cases e : p a with
    | true => simp only [if_true, List.filterMap_cons, id_eq]; rw [ih]
    | false => simp only [Bool.false_eq_true, if_false, List.filterMap_cons, id_eq]; exact ih
theorem SideAt.hid {D : Addr} {H1 H : Hp} {v : V} {r : Sd} (h : SideAt H1 v r) (hD : H1 D = none) (s : Same H1 H) : SideAt (hide D H) v r := by
  have := hide_mono (D := D) s
  rw [hide_none hD] at this
  exact h.mono this
section
variable {K : PySem.W.Frag} {a : Addr} {g : TG} {tt : TT} {te : TE} {vs : List Nat} {σ : L2.St} {H1 : Hp} {D : Addr} {Qd : Hp → Prop}
/-- a comprehension over sides that leaves some out -/
theorem lc_sdF {xs : List V} {fs : List Sd} (p : Sd → Bool) (pr : Paired (SideAt H1) xs fs) (hD : H1 D = none) (ha : SqL K H1 a xs) (hz : fs.length < sizeLine)
    (hs : ∀ (i : Nat) (x : V) (r : Sd) (H : Hp) (N : Hp → Prop), xs[i]? = some x → fs[i]? = some r → SideAt H x r → Same H1 H → (∀ H', p r = false → Same H H' → N H') → (∀ H', p r = true → Same H H' → ∃ acc, H' D = some (.lst acc) ∧ acc.length < sizeLine ∧ N (upd H' D (.lst (acc ++ [x])))) →
      g x (wipe σ vs) H fun σ2 H2 => wipe σ2 vs = wipe σ vs ∧ tt σ2 H2 fun b H3 => if b = true then te σ2 H3 fun y H4 => ∃ acc, H4 D = some (.lst acc) ∧ acc.length < sizeLine ∧ N (upd H4 D (.lst (acc ++ [y]))) else N H3)
    (hd : ∀ H acc, Same H1 H → H D = some (.lst acc) → Paired (SideAt H) acc (fs.filter p) → Qd H) :
    ∃ W : Nat → Nat → Hp → Prop, (∃ m, W 0 m (upd H1 D (.lst []))) ∧ ∀ i m H, W i m H →
      ((Itl K a).stop i H ∧ Qd H) ∨ ((Itl K a).go i H ∧ ∃ Nx : Hp → Prop, (∀ H', Nx H' → ∃ m', m' < m ∧ W (i + 1) m' H') ∧ ∀ x H', (Itl K a).yld i H x H' → g x (wipe σ vs) H' fun σ2 H2 => wipe σ2 vs = wipe σ vs ∧ tt σ2 H2 fun b H3 =>
        if b = true then te σ2 H3 fun y H4 => ∃ acc, H4 D = some (.lst acc) ∧ acc.length < sizeLine ∧ Nx (upd H4 D (.lst (acc ++ [y]))) else Nx H3) := by
  refine lc_tell (β := Sd) SideAt (fs.map fun r => if p r = true then some r else none) hD ha (by rw [List.length_map]; exact pd_len pr) (by rw [List.length_map]; exact hz) (fun _ _ _ _ s z => SideAt.mono z s) (fun i x o H hx ho s1 _ N no yes => ?_) fun H acc s1 hacc pp => ?_
  · obtain ⟨r, hr, sr⟩ := pd_get pr hx
    have e : o = if p r = true then some r else none := by
      rw [List.getElem?_map, hr] at ho
      exact (Option.some.inj ho).symm
    subst e
    refine hs i x r H N hx hr (sr.mono s1) s1 (fun H' h s2 => no H' (by rw [h]; rfl) s2) fun H' h s2 => yes H' x r (by rw [h]; rfl) s2 (sr.hid hD (s1.trans s2))
  · rw [filter_opt] at pp
    exact hd H acc s1 hacc pp
end
theorem pd_take {α β : Type} {R : α → β → Prop} {xs : List α} {ys : List β} (h : Paired R xs ys) : ∀ n, Paired R (xs.take n) (ys.take n) := by
  induction h with
  | nil => intro n; rw [List.take_nil, List.take_nil]; exact .nil
  | cons h _ ih =>
    intro n
    cases n with
    | zero => exact .nil
    | succ n => exact .cons h (ih n)
theorem pd_drop {α β : Type} {R : α → β → Prop} {xs : List α} {ys : List β} (h : Paired R xs ys) : ∀ n, Paired R (xs.drop n) (ys.drop n) := by
  induction h with
  | nil => intro n; rw [List.drop_nil, List.drop_nil]; exact .nil
  | cons h t ih =>
    intro n
    cases n with
    | zero => exact .cons h t
    | succ n => exact ih n
theorem sides_dp {K : PySem.W.Frag} {H : Hp} {vs : List V} {fs : List Sd} (pr : Paired (SideAt H) vs fs) (h : ∀ f ∈ fs, letB f.1 = true ∧ Lets f.2.1 ∧ Lets f.2.2) : ∃ ds, DpAll K H vs ds ∧ PyData.canLayAll0 ds = true ∧ PyData.depthAll ds ≤ 60 := by
  have l := rows_lay (rows := fs) fun r hr => side_lay (let_lay (h r hr).1) (h r hr).2.1.lay (h r hr).2.2.lay
  exact ⟨_, rows_dp pr, l.1, Nat.le_trans l.2 (by decide)⟩
/-- the cell with one index alone -/
def loneM (rows : List Sd) (z : Str) (n : Int) : List Int := rows.map fun r => if r.1 = z then n else 0
/-- a letter that stands oftener in the first -/
def moreM (l o : List Str) : Option Str := l.find? fun k => decide (o.count k < l.count k)
def sharedGo : List Str → List Str → List Str
  | [], _ => []
  | k :: l, o => if k ∈ o then k :: sharedGo l (o.erase k) else sharedGo l o
def sharedM (l o : List Str) : List Str := sharedGo l o
def prodF (f : Str → Int) (l : List Str) : Int := l.foldl (fun a k => a * f k) 1
theorem prodF_app {f : Str → Int} {l : List Str} {k : Str} : prodF f (l ++ [k]) = prodF f l * f k := by
  unfold prodF
  rw [List.foldl_append]
  rfl
theorem foldl_pos {f : Str → Int} : ∀ {l : List Str} {a : Int}, 0 ≤ a → (∀ x ∈ l, 0 ≤ f x) → 0 ≤ l.foldl (fun a k => a * f k) a
  | [], a, h, _ => h
  | k :: l, a, h, hf => foldl_pos (l := l) (Int.mul_nonneg h (hf k (List.mem_cons_self ..))) fun x hx => hf x (List.mem_cons_of_mem _ hx)
theorem prodF_pos {f : Str → Int} {l : List Str} (h : ∀ x ∈ l, 0 ≤ f x) : 0 ≤ prodF f l := foldl_pos (by decide) h
theorem pd_rev {α β : Type} {R : α → β → Prop} {xs : List α} {ys : List β} (h : Paired R xs ys) : Paired R xs.reverse ys.reverse := by
  induction h with
  | nil => exact .nil
  | cons h _ ih => rw [List.reverse_cons, List.reverse_cons]; exact pd_app ih (pd_one h)
end CP

set_option Elab.async false
set_option linter.all false
set_option maxRecDepth 100000
set_option maxHeartbeats 4000000
set_option autoImplicit false
/-! dict comprehensions stored in a local name; over a list of texts -/
namespace CP
open L2 PySem PyProof.Rows
section
variable {X : Cx}
theorem ps_setDc {i : Nat} {nm : Str} {py : Pos} {kx vx tg iter : Expr} {ifs : List Expr} {scope : Scope} {own : List (Str × Nat)} {pos spos : Pos} {wi : TI} {g : TG} {tt : TT} {tk tv : TE} (calm : X.calm = true) (nd : X.N.Nodup) (hi : X.N[i]? = some nm) (hloc : X.env.scope.names.lookup nm = some .local)
    (sw : swapsWith (.DictComp kx vx [⟨tg, iter, ifs, 0⟩] scope pos) (some (.Name nm py)) spos.line X.env = pure true) (it : PI X tg iter wi) (blk : BlkOk X.N X.env.scope scope own)
    (dg : ∀ (s : Shared) (H : Hp) (C : Addr) (cl : List (Str × Addr)) (fp : List Addr), PG (X.blk s H scope (compEnvC scope cl C X.env) fp) tg g) (dt : ∀ (s : Shared) (H : Hp) (C : Addr) (cl : List (Str × Addr)) (fp : List Addr), PTs (X.blk s H scope (compEnvC scope cl C X.env) fp) ifs tt)
    (dk : ∀ (s : Shared) (H : Hp) (C : Addr) (cl : List (Str × Addr)) (fp : List Addr), PE (X.blk s H scope (compEnvC scope cl C X.env) fp) kx tk)
    (dv : ∀ (s : Shared) (H : Hp) (C : Addr) (cl : List (Str × Addr)) (fp : List Addr), PE (X.blk s H scope (compEnvC scope cl C X.env) fp) vx tv) (fold : ∀ x, foldedSetIterable iter X.env x = pure x := by intro _; rfl) :
    PS X (.Assign [.Name nm py] (.DictComp kx vx [⟨tg, iter, ifs, 0⟩] scope pos) spos) (tAsg (tDc wi g tt tk tv (own.map (·.2))) (gName i)) := by
  constructor
  intro pins s σ H En I h
  rw [exec_Assign_Name_used (hs := sw)]
  refine wpAny_bind (wpAny_standAt ?_)
  have h : tDc wi g tt tk tv (own.map (·.2)) σ H (fun x H1 => gName i x σ H1 En.nx) := h
  refine wpAny_bind ?_
  show wpAny _ X.A (do let _ ← comprehension (.DictComp kx vx [⟨tg, iter, ifs, 0⟩] scope pos) scope X.env (firstIterPos [⟨tg, iter, ifs, 0⟩] pos) newDict false (eval iter X.env) (some (assign (.Name nm py) X.env))) _ _ s
  refine wpAny_bind (thn (dc_core (Qf := fun _ s' => SP X pins En .next s') calm nd I it blk dg dt dk dv fold h ?_) fun _ s' z => wpAny_pure (wpAny_pure z))
  intro D C s' m H' J q ns fo
  obtain ⟨p0, p1, p2, p3, p4, p5⟩ := fo
  refine wpAny_assign_Name (store_ok2 (v := V.ref D) J nd hi (.inl hloc) rfl (fun s2 J2 ⟨a, sb, ha⟩ => ?_) (.inr hloc))
  have ca : C ≠ a := ha.elim (fun z => z ▸ p1) fun z e => p4 nm a z e.symm
  exact ⟨m, ns.sameBut sb ca, fun h3 sb3 => ⟨_, H', J2.turned (t' := s2.toks) (fun b o hb e => (sb3.2 b hb).trans e) p0 p1 p3 p4 p5, q⟩⟩
theorem swd_true {kx vx : Expr} {gs : List Comprehension} {scope : Scope} {pos py : Pos} {nm : Str} {l : Nat} {env : Env} (hf : env.scope.kind = .function) (hn : env.scope.names.lookup nm = some .local) (hl : (py.line == pos.line) = true)
    (no : (scope.names.any fun (n, k) => n == nm && (k == .local || k == .cell)) = false) : swapsWith (.DictComp kx vx gs scope pos) (some (.Name nm py)) l env = pure true := by
  have e1 : env.kindOf nm = some .local := hn
  have e2 : env.blockKind = .function := by
    unfold Env.blockKind
    rw [hf]
    rfl
  simp only [swapsWith, e2, e1, no, Expr.pos, hl]
  rfl
end
/-- a dict of numbers by letters -/
def dV (l : List (Str × Int)) : List (Key × V) := l.map fun p => (Sum.inr p.1, V.int p.2)
section
variable {K : PySem.W.Frag} {a : Addr} {g : TG} {tt : TT} {tk tv : TE} {vs : List Nat} {σ : L2.St} {H1 : Hp} {D : Addr} {Qd : Hp → Prop} {xs : List V}
theorem dc_list (Pv : Nat → Hp → Prop) (start : Pv 0 (upd H1 D (.dK []))) (stay : ∀ i H, i ≤ xs.length → Pv i H → SqL K H a xs)
    (step : ∀ i x H, xs[i]? = some x → Pv i H → g x (wipe σ vs) H fun σ2 H2 => wipe σ2 vs = wipe σ vs ∧ tt σ2 H2 fun b H3 =>
      if b = true then tk σ2 H3 fun y H4 => tv σ2 H4 fun z H5 => ∃ kvs k, y = kV k ∧ H5 D = some (.dK kvs) ∧ kvs.length < sizeLine ∧ Pv (i + 1) (upd H5 D (.dK (putK kvs k z))) else Pv (i + 1) H3) (fin : ∀ H, Pv xs.length H → Qd H) :
    ∃ W : Nat → Nat → Hp → Prop, (∃ m, W 0 m (upd H1 D (.dK []))) ∧ ∀ i m H, W i m H →
      ((Itl K a).stop i H ∧ Qd H) ∨ ((Itl K a).go i H ∧ ∃ Nx : Hp → Prop, (∀ H', Nx H' → ∃ m', m' < m ∧ W (i + 1) m' H') ∧ ∀ x H', (Itl K a).yld i H x H' → g x (wipe σ vs) H' fun σ2 H2 => wipe σ2 vs = wipe σ vs ∧ tt σ2 H2 fun b H3 =>
        if b = true then tk σ2 H3 fun y H4 => tv σ2 H4 fun z H5 => ∃ kvs k, y = kV k ∧ H5 D = some (.dK kvs) ∧ kvs.length < sizeLine ∧ Nx (upd H5 D (.dK (putK kvs k z))) else Nx H3) := by
  refine ⟨fun i m H => m = xs.length - i ∧ i ≤ xs.length ∧ Pv i H, ⟨_, rfl, Nat.zero_le _, start⟩, fun i m H ⟨em, hi, p⟩ => ?_⟩
  subst em
  have q := stay i H hi p
  rcases Nat.lt_or_ge i xs.length with lt | ge
  · refine .inr ⟨⟨xs, xs[i], q, List.getElem?_eq_getElem lt⟩, Pv (i + 1), fun H' p' => ⟨xs.length - (i + 1), by omega, rfl, lt, p'⟩, fun x H' y => ?_⟩
    obtain ⟨eH, hx⟩ := y
    cases eH
    exact step i x H (hx xs q) p
  · have e : i = xs.length := by omega
    subst e
    exact .inl ⟨⟨xs, q, (Nat.le_refl _ : xs.length ≤ xs.length)⟩, fin H p⟩
end
/-- a value laid under a letter -/
def setD : List (Str × Int) → Str → Int → List (Str × Int)
  | [], k, n => [(k, n)]
  | p :: l, k, n => if p.1 = k then (k, n) :: l else p :: setD l k n
def getD : List (Str × Int) → Str → Option Int
  | [], _ => none
  | p :: l, k => if p.1 = k then some p.2 else getD l k
theorem dV_val : ∀ (l : List (Str × Int)) (k : Str), valV (dV l) (Sum.inr k) = (getD l k).map V.int
  | [], k => rfl
  | p :: l, k => by
    show valV ((Sum.inr p.1, V.int p.2) :: dV l) (Sum.inr k) = _
    unfold getD
    by_cases e : p.1 = k
    · rw [valV_pos (by rw [e]), if_pos e]; rfl
    · rw [valV_neg (fun z => e (by injection z)), if_neg e]; exact dV_val l k
theorem setD_keys : ∀ {l : List (Str × Int)} {k : Str} {n : Int}, k ∈ l.map (·.1) → (setD l k n).map (·.1) = l.map (·.1)
  | [], k, n, h => nomatch h
  | p :: l, k, n, h => by
    unfold setD
    by_cases e : p.1 = k
    · rw [if_pos e, List.map_cons, List.map_cons, e]
    · rw [if_neg e, List.map_cons, List.map_cons, setD_keys ((List.mem_cons.mp h).resolve_left (Ne.symm e))]
theorem setD_new : ∀ {l : List (Str × Int)} {k : Str} {n : Int}, k ∉ l.map (·.1) → setD l k n = l ++ [(k, n)]
  | [], k, n, h => rfl
  | p :: l, k, n, h => by
    unfold setD
    rw [if_neg (fun e => h (by rw [List.map_cons, e]; exact List.mem_cons_self ..)), setD_new (l := l) (fun z => h (List.mem_cons_of_mem _ z))]
    rfl
theorem setD_len (l : List (Str × Int)) (k : Str) (n : Int) : (setD l k n).length ≤ l.length + 1 := by
  induction l with
  | nil => exact Nat.le_refl _
  | cons p l ih =>
    unfold setD
    split
    · rw [List.length_cons, List.length_cons]; omega
    · rw [List.length_cons, List.length_cons]; omega
theorem getD_setD : ∀ (l : List (Str × Int)) (k j : Str) (n : Int), getD (setD l k n) j = if k = j then some n else getD l j
  | [], k, j, n => rfl
  | p :: l, k, j, n => by
    unfold setD
    by_cases e : p.1 = k
    · rw [if_pos e]
      unfold getD
      by_cases f : k = j
      · rw [if_pos f, if_pos f]
      · rw [if_neg f, if_neg f, if_neg (by rw [e]; exact f)]
    · rw [if_neg e]
      unfold getD
      by_cases f : p.1 = j
      · rw [if_pos f, if_pos f, if_neg (by rw [← f]; exact Ne.symm e)]
      · rw [if_neg f, if_neg f, getD_setD l k j n]
theorem dV_any (l : List (Str × Int)) (k : Str) : ((dV l).any fun kv => decide (kv.1 = (Sum.inr k : Key))) = decide (k ∈ l.map (·.1)) := by
  unfold dV
  rw [List.any_map]
  induction l with
  | nil => rfl
  | cons p l ih =>
    rw [List.any_cons, ih]
    show (decide ((Sum.inr p.1 : Key) = Sum.inr k) || _) = _
    by_cases e : p.1 = k
    · subst e; simp
    · have : ¬ ((Sum.inr p.1 : Key) = Sum.inr k) := fun z => e (by injection z)
      rw [decide_eq_false this]
      simp [Ne.symm e]
theorem dV_put (l : List (Str × Int)) (k : Str) (n : Int) (nd : (l.map (·.1)).Nodup) : putK (dV l) (Sum.inr k) (.int n) = dV (setD l k n) := by
  unfold putK
  rw [dV_any]
  by_cases h : k ∈ l.map (·.1)
  · rw [if_pos (decide_eq_true h)]
    induction l with
    | nil => cases h
    | cons p l ih =>
      unfold setD
      by_cases e : p.1 = k
      · rw [if_pos e]
        have nk : ∀ q ∈ l, q.1 ≠ k := fun q hq z => (List.pairwise_cons.mp nd).1 q.1 (List.mem_map.mpr ⟨q, hq, rfl⟩) (e.trans z.symm)
        subst e
        show _ :: _ = _ :: _
        congr 1
        · simp
        · clear ih h nd
          induction l with
          | nil => rfl
          | cons q l ih2 =>
            have i2 := ih2 fun q hq => nk q (List.mem_cons_of_mem _ hq)
            have n2 : ¬ ((Sum.inr q.1 : Key) = Sum.inr p.1) := fun z => nk q (List.mem_cons_self ..) (by injection z)
            show _ :: _ = _ :: _
            congr 1
            exact if_neg n2
      · rw [if_neg e]
        have n2 : ¬ ((Sum.inr p.1 : Key) = Sum.inr k) := fun z => e (by injection z)
        show _ :: _ = _ :: _
        congr 1
        · exact if_neg n2
        · exact ih (List.pairwise_cons.mp nd).2 ((List.mem_cons.mp h).resolve_left (Ne.symm e))
  · rw [if_neg (by simpa using h), setD_new h]
    unfold dV
    rw [List.map_append]
    rfl
theorem r_dc {wi : TI} {g : TG} {tt : TT} {tk tv : TE} {vs : List Nat} {σ : L2.St} {H : Hp} {Q : VK} (q : wi σ H fun J H1 => ∀ D, H1 D = none → ∃ W : Nat → Nat → Hp → Prop, (∃ m, W 0 m (upd H1 D (.dK []))) ∧ ∀ i m H, W i m H →
  (J.stop i H ∧ Q (.ref D) H) ∨ (J.go i H ∧ ∃ Nx : Hp → Prop, (∀ H', Nx H' → ∃ m', m' < m ∧ W (i + 1) m' H') ∧ ∀ x H', J.yld i H x H' → g x (wipe σ vs) H' fun σ2 H2 => wipe σ2 vs = wipe σ vs ∧ tt σ2 H2 fun b H3 =>
    if b = true then tk σ2 H3 fun y H4 => tv σ2 H4 fun z H5 => ∃ kvs k, y = kV k ∧ H5 D = some (.dK kvs) ∧ kvs.length < sizeLine ∧ Nx (upd H5 D (.dK (putK kvs k z))) else Nx H3)) : tDc wi g tt tk tv vs σ H Q := q
/-- values of 2 for all letters -/
def allTwo (l : List Str) : List (Str × Int) := l.map fun k => (k, 2)
theorem allTwo_keys (l : List Str) : (allTwo l).map (·.1) = l := by
  unfold allTwo
  rw [List.map_map]
  exact List.map_id l
theorem allTwo_get {l : List Str} {k : Str} (h : k ∈ l) : getD (allTwo l) k = some 2 := by
  unfold allTwo
  induction l with
  | nil => cases h
  | cons a l ih =>
    show (if a = k then some 2 else getD _ k) = some 2
    by_cases e : a = k
    · rw [if_pos e]
    · rw [if_neg e]; exact ih ((List.mem_cons.mp h).resolve_left (Ne.symm e))
theorem allTwo_succ {l : List Str} {i : Nat} {k : Str} (h : l[i]? = some k) (nd : l.Nodup) : putK (dV (allTwo (l.take i))) (Sum.inr k) (.int 2) = dV (allTwo (l.take (i + 1))) := by
  have nk : k ∉ l.take i := fun z => by
    rw [← List.take_append_drop (i + 1) l, take_succ h] at nd
    have := (List.nodup_append.mp (List.nodup_append.mp nd).1).2.2 k z k (List.mem_singleton.mpr rfl)
    exact this rfl
  rw [dV_put _ _ _ (by rw [allTwo_keys]; exact nd.sublist (List.take_sublist ..)), setD_new (by rw [allTwo_keys]; exact nk), take_succ h]
  unfold allTwo
  rw [List.map_append]
  rfl
theorem prod_two (l : List Str) : prodF (fun _ => 2) l = 2 ^ l.length := by
  unfold prodF
  suffices ∀ (l : List Str) (a : Int), l.foldl (fun a _ => a * 2) a = a * 2 ^ l.length by rw [this, Int.one_mul]
  intro l
  induction l with
  | nil => intro a; show a = a * 2 ^ 0; rw [Int.pow_zero, Int.mul_one]
  | cons k l ih =>
    intro a
    rw [List.foldl_cons, ih, List.length_cons, Int.pow_succ, Int.mul_assoc, Int.mul_comm 2]
/-- the first gap -/
def holeGo (szs : List Str) : List Str → List Sd → Option (List (Str × Int) × Int)
  | _, [] => none
  | due, r :: fs => if r.2.2 = due then holeGo szs (srt (r.2.1 ++ r.2.2)) fs else some (allTwo szs, prodF (fun _ => 2) due)
def holeM (szs : List Str) (fs : List Sd) : Option (List (Str × Int) × Int) := holeGo szs [] fs
theorem mem_sizes {rows : List Sd} {r : Sd} (h : r ∈ rows) {x : Str} (hx : x ∈ r.2.1 ++ r.2.2) : x ∈ sizesM rows := by
  unfold sizesM
  rw [mem_sset]
  exact List.mem_flatMap.mpr ⟨r, h, hx⟩
theorem sizes_nd (rows : List Sd) : (sizesM rows).Nodup := sset_nodup _
theorem sizes_len {rows : List Sd} (h : Rows rows) : (sizesM rows).length ≤ 1200 := by
  refine Nat.le_trans (sset_len _) ?_
  have few := h.few
  suffices ∀ l : List Sd, (∀ r ∈ l, r ∈ rows) → (l.flatMap fun r => r.2.1 ++ r.2.2).length ≤ 60 * l.length by
    have := this rows fun _ h => h
    omega
  intro l
  induction l with
  | nil => intro _; exact Nat.le_refl _
  | cons r l ih =>
    intro hl
    have := ih fun x hx => hl x (List.mem_cons_of_mem _ hx)
    have a := (h.size r (hl r (List.mem_cons_self ..))).2
    have b := (h.step r (hl r (List.mem_cons_self ..))).2
    rw [List.flatMap_cons, List.length_append, List.length_append, List.length_cons]
    omega
theorem sizes_let {rows : List Sd} (h : Rows rows) : ∀ x ∈ sizesM rows, letB x = true := fun x hx => by
  unfold sizesM at hx
  rw [mem_sset] at hx
  obtain ⟨r, hr, hx⟩ := List.mem_flatMap.mp hx
  rcases List.mem_append.mp hx with z | z
  · exact (h.size r hr).1 x z
  · exact (h.step r hr).1 x z
section
variable {σ : L2.St} {H : Hp} {D : Ends} {tas : TA} {i j l : Nat}
theorem r_par3 (q : tas σ H fun vs H1 => ∃ u v w, vs = [u, v, w] ∧ D.nx (((σ.set i (some u)).set j (some v)).set l (some w)) H1) : tPar3 i j l tas D σ H := q
theorem r_three {u v w : V} {P : V → V → V → Prop} (q : P u v w) : ∃ x y z, [u, v, w] = [x, y, z] ∧ P x y z := ⟨u, v, w, rfl, q⟩
end
end CP

set_option Elab.async false
set_option linter.all false
set_option maxRecDepth 100000
set_option maxHeartbeats 4000000
set_option autoImplicit false
/-! two cells with the same place -/
namespace CP
open L2 PySem PyProof.Rows
theorem restOf_count : ∀ {o l m : List Str}, restOf l o = some m → ∀ x, l.count x = m.count x + o.count x
  | [], l, m, h, x => by cases h; simp
  | k :: o, l, m, h, x => by
    unfold restOf at h
    split at h
    · rename_i hk
      have ih := restOf_count h x
      rw [List.count_erase] at ih
      rw [List.count_cons]
      by_cases e : k = x
      · subst e
        have := List.count_pos_iff.mpr hk
        simp only [beq_self_eq_true, if_true] at ih ⊢
        omega
      · have e1 : (k == x) = false := beq_eq_false_iff_ne.mpr e
        have e2 : (x == k) = false := beq_eq_false_iff_ne.mpr (Ne.symm e)
        simp only [e1, e2, Bool.false_eq_true, if_false] at ih ⊢
        omega
    · cases h
theorem restOf_some : ∀ {o l : List Str}, (∀ x, o.count x ≤ l.count x) → ∃ m, restOf l o = some m
  | [], l, h => ⟨l, rfl⟩
  | k :: o, l, h => by
    have hk : k ∈ l := List.count_pos_iff.mp (by have := h k; rw [List.count_cons_self] at this; omega)
    unfold restOf
    rw [if_pos hk]
    refine restOf_some fun x => ?_
    have := h x
    rw [List.count_cons] at this
    rw [List.count_erase]
    by_cases e : k = x
    · subst e
      simp only [beq_self_eq_true, if_true] at this ⊢
      omega
    · have e1 : (k == x) = false := beq_eq_false_iff_ne.mpr e
      have e2 : (x == k) = false := beq_eq_false_iff_ne.mpr (Ne.symm e)
      simp only [e1, e2, Bool.false_eq_true, if_false] at this ⊢
      omega
theorem restOf_none {o l : List Str} (h : restOf l o = none) : ∃ x, l.count x < o.count x := by
  refine Classical.byContradiction fun n => ?_
  obtain ⟨m, hm⟩ := restOf_some (o := o) (l := l) fun x => Nat.le_of_not_lt fun z => n ⟨x, z⟩
  rw [h] at hm
  cases hm
theorem shared_count : ∀ (l o : List Str) (x : Str), (sharedGo l o).count x = min (l.count x) (o.count x)
  | [], o, x => by simp [sharedGo]
  | k :: l, o, x => by
    unfold sharedGo
    rw [List.count_cons]
    by_cases hk : k ∈ o
    · rw [if_pos hk, List.count_cons, shared_count l _ x, List.count_erase]
      by_cases e : k = x
      · subst e
        have := List.count_pos_iff.mpr hk
        simp only [beq_self_eq_true, if_true]
        omega
      · have e1 : (k == x) = false := beq_eq_false_iff_ne.mpr e
        have e2 : (x == k) = false := beq_eq_false_iff_ne.mpr (Ne.symm e)
        simp only [e1, e2, Bool.false_eq_true, if_false]
        omega
    · rw [if_neg hk, shared_count l o x]
      by_cases e : k = x
      · subst e
        rw [List.count_eq_zero.mpr hk]
        omega
      · have e1 : (k == x) = false := beq_eq_false_iff_ne.mpr e
        simp only [e1, Bool.false_eq_true, if_false]
        omega
theorem shared_len : ∀ (l o : List Str), (sharedGo l o).length ≤ l.length
  | [], o => Nat.le_refl _
  | k :: l, o => by
    unfold sharedGo
    split
    · rw [List.length_cons, List.length_cons]; have := shared_len l (o.erase k); omega
    · rw [List.length_cons]; have := shared_len l o; omega
theorem shared_rest (l o : List Str) : (∃ m, restOf l (sharedM l o) = some m) ∧ ∃ m, restOf o (sharedM l o) = some m :=
  ⟨restOf_some fun x => by unfold sharedM; rw [shared_count]; omega, restOf_some fun x => by unfold sharedM; rw [shared_count]; omega⟩
/-- neither is ahead of the other -/
theorem ordGo_apart : ∀ {rs f : List Sd} {u v : Sd}, ordGo f rs = .inr (u, v) → aheadB u v = false ∧ aheadB v u = false
  | [], f, u, v, h => by cases h
  | r :: rs, f, u, v, h => by
    unfold ordGo at h
    split at h
    · exact ordGo_apart h
    · split at h
      · rename_i w ws e
        cases h
        have : u ∈ f.filter fun f => !aheadB f r && !aheadB r f := by rw [e]; exact List.mem_cons_self ..
        have := (List.mem_filter.mp this).2
        rw [Bool.and_eq_true, Bool.not_eq_true', Bool.not_eq_true'] at this
        exact this
      · exact ordGo_apart h
/-- where one step divides the other: a letter that stands oftener in the size -/
theorem more_some {l o s : List Str} (h : restOf o (s ++ l) = none) {m : List Str} (h1 : restOf l (sharedM l o) = some []) (h2 : restOf o (sharedM l o) = some m) : ∃ k, moreM s m = some k := by
  obtain ⟨x, hx⟩ := restOf_none h
  have c1 := restOf_count h1 x
  have c2 := restOf_count h2 x
  rw [List.count_append] at hx
  have hm : m.count x < s.count x := by
    rw [List.count_nil] at c1
    omega
  cases e : moreM s m with
  | some k => exact ⟨k, rfl⟩
  | none =>
    have := List.find?_eq_none.mp e x (List.count_pos_iff.mp (by omega))
    rw [decide_eq_true hm] at this
    exact absurd rfl this
theorem shared_swap_count (l o : List Str) (x : Str) : (sharedM l o).count x = (sharedM o l).count x := by
  unfold sharedM
  rw [shared_count, shared_count, Nat.min_comm]
/-- the same with the two exchanged -/
theorem more_some' {l o s : List Str} (h : restOf l (s ++ o) = none) {m : List Str} (h1 : restOf o (sharedM l o) = some []) (h2 : restOf l (sharedM l o) = some m) : ∃ k, moreM s m = some k := by
  obtain ⟨x, hx⟩ := restOf_none h
  have c1 := restOf_count h1 x
  have c2 := restOf_count h2 x
  rw [List.count_append] at hx
  have hm : m.count x < s.count x := by
    rw [List.count_nil] at c1
    omega
  cases e : moreM s m with
  | some k => exact ⟨k, rfl⟩
  | none =>
    have := List.find?_eq_none.mp e x (List.count_pos_iff.mp (by omega))
    rw [decide_eq_true hm] at this
    exact absurd rfl this
theorem more_prop {s m : List Str} {k : Str} (h : moreM s m = some k) : k ∈ s ∧ m.count k < s.count k :=
  ⟨List.mem_of_find?_eq_some h, of_decide_eq_true (by simpa using List.find?_some h)⟩
/-- the value of a letter -/
def atD (v : List (Str × Int)) (k : Str) : Int := (getD v k).getD 0
/-- the letter's value is doubled until the size is greater -/
def grow (one second : List Str) (name : Str) : Nat → List (Str × Int) → List (Str × Int)
  | 0, v => v
  | n + 1, v => if prodF (atD v) one ≤ prodF (atD v) second then grow one second name n (setD v name (atD v name * 2)) else v
def setAll (v : List (Str × Int)) (ks : List Str) (n : Int) : List (Str × Int) := ks.foldl (fun v k => setD v k n) v
def clash2 (rows : List Sd) (vals : List (Str × Int)) (one other : Sd) (second : List Str) : Option (List (Str × Int) × List Int × List Int) :=
  match moreM one.2.1 second with
  | none => none
  | some name => some (grow one.2.1 second name 100 vals, loneM rows one.1 (prodF (atD (grow one.2.1 second name 100 vals)) second), loneM rows other.1 1)
def clashM (rows : List Sd) : Option (List (Str × Int) × List Int × List Int) :=
  match orderM rows with
  | .inl _ => none
  | .inr (one, other) =>
    match restOf one.2.2 (sharedM one.2.2 other.2.2), restOf other.2.2 (sharedM one.2.2 other.2.2) with
    | some first, some second =>
      if first ≠ [] then
        if second ≠ [] then some (setAll (setAll (allTwo (sizesM rows)) first (2 ^ second.length)) second (2 ^ first.length), loneM rows one.1 1, loneM rows other.1 1)
        else clash2 rows (allTwo (sizesM rows)) other one first
      else clash2 rows (allTwo (sizesM rows)) one other second
    | _, _ => none
theorem setAll_keys {v : List (Str × Int)} {n : Int} : ∀ {ks : List Str}, (∀ k ∈ ks, k ∈ v.map (·.1)) → (setAll v ks n).map (·.1) = v.map (·.1) := by
  intro ks
  unfold setAll
  induction ks generalizing v with
  | nil => intro _; rfl
  | cons k ks ih =>
    intro h
    have e := setD_keys (n := n) (h k (List.mem_cons_self ..))
    rw [List.foldl_cons, ih (fun x hx => by rw [e]; exact h x (List.mem_cons_of_mem _ hx)), e]
theorem setAll_succ {v : List (Str × Int)} {ks : List Str} {k : Str} {n : Int} : setAll v (ks ++ [k]) n = setD (setAll v ks n) k n := by
  unfold setAll
  rw [List.foldl_append]
  rfl
theorem foldl_mul {f : Str → Int} : ∀ {l : List Str} {a : Int}, l.foldl (fun a k => a * f k) a = a * prodF f l
  | [], a => by unfold prodF; rw [List.foldl_nil, List.foldl_nil, Int.mul_one]
  | k :: l, a => by
    unfold prodF
    rw [List.foldl_cons, List.foldl_cons, foldl_mul, foldl_mul, Int.one_mul, Int.mul_assoc]
theorem prodF_cons {f : Str → Int} {k : Str} {l : List Str} : prodF f (k :: l) = f k * prodF f l := by
  show (k :: l).foldl (fun a k => a * f k) 1 = _
  rw [List.foldl_cons, foldl_mul, Int.one_mul]
/-- behind i doublings -/
def Grown (szs : List Str) (name : Str) (i : Nat) (v : List (Str × Int)) : Prop := v.map (·.1) = szs ∧ ∀ k ∈ szs, getD v k = some (if k = name then 2 ^ (i + 1) else 2)
theorem grown_zero (szs : List Str) (name : Str) : Grown szs name 0 (allTwo szs) := ⟨allTwo_keys szs, fun k hk => by
  rw [allTwo_get hk]
  split <;> rfl⟩
theorem Grown.succ {szs : List Str} {name : Str} {i : Nat} {v : List (Str × Int)} (h : Grown szs name i v) (hn : name ∈ szs) : Grown szs name (i + 1) (setD v name (atD v name * 2)) := by
  refine ⟨by rw [setD_keys (by rw [h.1]; exact hn)]; exact h.1, fun k hk => ?_⟩
  rw [getD_setD]
  by_cases e : name = k
  · subst e
    rw [if_pos rfl, if_pos rfl]
    unfold atD
    rw [h.2 name hn, if_pos rfl]
    show some ((2 : Int) ^ (i + 1) * 2) = _
    rw [← Int.pow_succ]
  · rw [if_neg e, h.2 k hk, if_neg (Ne.symm e), if_neg (Ne.symm e)]
theorem Grown.at_ {szs : List Str} {name : Str} {i : Nat} {v : List (Str × Int)} (h : Grown szs name i v) {k : Str} (hk : k ∈ szs) : atD v k = 2 ^ (if k = name then i + 1 else 1) := by
  unfold atD
  rw [h.2 k hk]
  split <;> rfl
theorem Grown.prod {szs : List Str} {name : Str} {i : Nat} {v : List (Str × Int)} (h : Grown szs name i v) : ∀ {l : List Str}, (∀ k ∈ l, k ∈ szs) → prodF (atD v) l = 2 ^ (l.length + i * l.count name)
  | [], _ => rfl
  | k :: l, hl => by
    rw [prodF_cons, h.prod fun x hx => hl x (List.mem_cons_of_mem _ hx), h.at_ (hl k (List.mem_cons_self ..)), ← Int.pow_add, List.length_cons, List.count_cons]
    congr 1
    by_cases e : k = name
    · subst e
      rw [if_pos rfl]
      simp only [beq_self_eq_true, if_true, Nat.mul_add]
      omega
    · rw [if_neg e]
      have e1 : (k == name) = false := beq_eq_false_iff_ne.mpr e
      simp only [e1, Bool.false_eq_true, if_false, Nat.add_zero]
      omega
theorem two_le {a b : Nat} (h : a ≤ b) : (2 : Int) ^ a ≤ 2 ^ b := by
  have := Nat.pow_le_pow_right (n := 2) (by decide) h
  exact_mod_cast this
theorem two_lt {a b : Nat} (h : a < b) : (2 : Int) ^ a < 2 ^ b := by
  have := Nat.pow_lt_pow_right (a := 2) (by decide) h
  exact_mod_cast this
theorem Grown.ends {szs : List Str} {name : Str} {i : Nat} {v : List (Str × Int)} (h : Grown szs name i v) {l m : List Str} (hl : ∀ k ∈ l, k ∈ szs) (hm : ∀ k ∈ m, k ∈ szs) (c : m.count name < l.count name) (lm : m.length ≤ 12) (le : prodF (atD v) l ≤ prodF (atD v) m) : i ≤ 12 := by
  rw [h.prod hl, h.prod hm] at le
  refine Classical.byContradiction fun n => ?_
  have : m.length + i * m.count name < l.length + i * l.count name := by
    have : i * (m.count name + 1) ≤ i * l.count name := Nat.mul_le_mul_left _ c
    rw [Nat.mul_add, Nat.mul_one] at this
    omega
  have := two_lt this
  omega
theorem grow_step {one second : List Str} {name : Str} {n : Nat} {v : List (Str × Int)} : grow one second name (n + 1) v = if prodF (atD v) one ≤ prodF (atD v) second then grow one second name n (setD v name (atD v name * 2)) else v := rfl
theorem two_400 {a : Nat} (h : a ≤ 200) : (2 : Int) ^ a < 2 ^ 400 := two_lt (by omega)
theorem Grown.val {szs : List Str} {name k : Str} {i : Nat} {v : List (Str × Int)} (h : Grown szs name i v) (hk : k ∈ szs) (hi : i ≤ 13) : valV (dV v) (Sum.inr k) = some (.int (atD v k)) ∧ 0 ≤ atD v k ∧ atD v k < 2 ^ 400 := by
  refine ⟨?_, ?_, ?_⟩
  · rw [dV_val, h.2 k hk]
    unfold atD
    rw [h.2 k hk]
    rfl
  · rw [h.at_ hk]
    exact Int.le_of_lt (Int.pow_pos (by decide))
  · rw [h.at_ hk]
    exact two_400 (by split <;> omega)
theorem Grown.low {szs : List Str} {name : Str} {i : Nat} {v : List (Str × Int)} (h : Grown szs name i v) {l : List Str} (hl : ∀ k ∈ l, k ∈ szs) (ll : l.length ≤ 12) (hi : i ≤ 13) (j : Nat) : prodF (atD v) (l.take j) < 2 ^ 400 := by
  rw [h.prod fun k hk => hl k (List.mem_of_mem_take hk)]
  refine two_400 ?_
  have c : (l.take j).count name ≤ (l.take j).length := List.count_le_length
  have t : (l.take j).length ≤ 12 := by rw [List.length_take]; omega
  have : i * (l.take j).count name ≤ 13 * 12 := Nat.mul_le_mul hi (by omega)
  omega
theorem grow_last {one second : List Str} {name : Str} {n : Nat} {v : List (Str × Int)} (h : ¬ prodF (atD v) one ≤ prodF (atD v) second) : grow one second name n v = v := by
  cases n with
  | zero => rfl
  | succ n => rw [grow_step, if_neg h]
theorem dV_len {l : List (Str × Int)} {szs : List Str} (h : l.map (·.1) = szs) : (dV l).length = szs.length := by
  rw [← h, List.length_map]
  unfold dV
  rw [List.length_map]
/-- the cell at a place, side by side from the last one -/
def foundGo (f : Str → Int) : List Sd → List (Str × Int) × Int → List (Str × Int) × Int
  | [], a => a
  | r :: fs, a => foundGo f fs (setD a.1 r.1 (min (a.2 / prodF f r.2.2) (prodF f r.2.1 - 1)), a.2 - min (a.2 / prodF f r.2.2) (prodF f r.2.1 - 1) * prodF f r.2.2)
def foundM (rows fs : List Sd) (f : Str → Int) (n : Int) : Option (List Int) :=
  if (foundGo f fs.reverse ([], n)).2 = 0 then some (rows.map fun r => (getD (foundGo f fs.reverse ([], n)).1 r.1).getD 0) else none
theorem prodF_le {f : Str → Int} : ∀ {l : List Str}, (∀ k ∈ l, 1 ≤ f k ∧ f k < 2 ^ 10) → 1 ≤ prodF f l ∧ prodF f l ≤ 2 ^ (10 * l.length)
  | [], _ => ⟨Int.le_refl 1, Int.le_refl 1⟩
  | k :: l, h => by
    obtain ⟨a, b⟩ := h k (List.mem_cons_self ..)
    obtain ⟨c, d⟩ := prodF_le (l := l) fun x hx => h x (List.mem_cons_of_mem _ hx)
    rw [prodF_cons, List.length_cons, Nat.mul_add, Nat.mul_one, Int.pow_add, Int.mul_comm]
    refine ⟨?_, Int.mul_le_mul d (by omega) (by omega) (Int.le_of_lt (Int.pow_pos (by decide)))⟩
    have := Int.mul_le_mul c a (by decide) (by omega)
    rwa [Int.mul_one] at this
/-! what is answered, as data -/
def OwnAt (rows : List Sd) (v : V) (H : Hp) : Prop := match orderM rows with
  | .inl fs => ∃ p, v = .ref p ∧ H p = some (.lst (strL (fs.map (·.1))))
  | .inr _ => v = .non
def ClashAt (rows : List Sd) (v : V) (H : Hp) : Prop := match clashM rows with
  | some (kv, c1, c2) => (kv.map (·.1)).Nodup ∧ ∃ t d x y, v = .ref t ∧ H t = some (.tup [.ref d, .ref x, .ref y]) ∧ H d = some (.dK (dV kv)) ∧ H x = some (.lst (c1.map V.int)) ∧ H y = some (.lst (c2.map V.int))
  | none => v = .non
def HoleAt (rows fs : List Sd) (v : V) (H : Hp) : Prop := match holeM (sizesM rows) fs with
  | some (kv, n) => (kv.map (·.1)).Nodup ∧ ∃ t d, v = .ref t ∧ H t = some (.tup [.ref d, .int n]) ∧ H d = some (.dK (dV kv))
  | none => v = .non
def CellAt (rows fs : List Sd) (f : Str → Int) (n : Int) (v : V) (H : Hp) : Prop := match foundM rows fs f n with
  | some c => ∃ p, v = .ref p ∧ H p = some (.lst (c.map V.int))
  | none => v = .non
end CP

set_option Elab.async false
set_option linter.all false
set_option maxRecDepth 100000
set_option maxHeartbeats 4000000
set_option autoImplicit false
/-! dicts that are walked: locked for that long -/
namespace CP
open L2 PySem PyProof.Rows
section
variable {K : PySem.W.Frag} {σ : L2.St} {H : Hp} {Q : VK} {d : Addr} {kvs : List (Key × V)} {t td : TE} {od : Obj} {z : Str} {v : V}
theorem r_lockE (h : H d = some (.dK kvs)) (q : ∀ od H1, H1 d = some (.frz od (.dK kvs)) → (∀ b o, b ≠ d → H b = some o → H1 b = some o) → (∀ H', Same H1 H' → Same H (upd H' d (.dK kvs))) → t σ H1 fun v H' => H' d = some (.frz od (.dK kvs)) ∧ Q v (upd H' d (.dK kvs))) : tLockE t σ H Q :=
  ⟨d, _, h, by trivial, fun od => q od _ upd_same (fun b o ne e => by rw [upd_ne ne]; exact e) fun H' s b o e => by
    by_cases ne : b = d
    · subst ne
      rw [h] at e
      rw [upd_same, e]
    · rw [upd_ne ne]
      exact s b o (by rw [upd_ne ne]; exact e)⟩
theorem r_iKeys {R : It → Hp → Prop} (q : td σ H fun x H1 => ∃ d o, x = .ref d ∧ ((∃ kvs, H1 d = some (.frz o (.dK kvs)) ∧ R (Itk d o kvs) H1) ∨ ∃ kvs, H1 d = some (.frz o (.dT kvs)) ∧ R (Itkt d o kvs) H1)) : iKeys td σ H R := q
theorem r_dgetF {P : V → Prop} (h : H d = some (.frz od (.dK kvs))) (e : valV kvs (Sum.inr z) = some v) (q : P v) : ∃ a v, V.ref d = .ref a ∧ DGet H a (.str z) (some v) ∧ P v :=
  ⟨d, v, rfl, .inl ⟨kvs, Sum.inr z, .inr ⟨od, h⟩, rfl, e.symm⟩, q⟩
theorem tk_frz (h : H d = some (.dK kvs)) : TK K H (.ref d) "dict" := tk_dK h
end
section
variable {β : Type} {a : Addr} {od : Obj} {kvs : List (Key × V)} {g : TG} {tt : TT} {te : TE} {vs : List Nat} {σ : L2.St} {H1 : Hp} {D : Addr} {Qd : Hp → Prop}
theorem lc_keys (R : Hp → V → β → Prop) (ys : List (Option β)) (hD : H1 D = none) (ha : H1 a = some (.frz od (.dK kvs))) (hl : kvs.length = ys.length) (hz : ys.length < sizeLine) (mono : ∀ H H' v b, Same H H' → R H v b → R H' v b)
    (hs : ∀ (i : Nat) (k : Key) (v : V) (o : Option β) (H : Hp), kvs[i]? = some (k, v) → ys[i]? = some o → Same H1 H → (∃ acc, H D = some (.lst acc)) → Turn g tt te vs σ R D H (kV k) o)
    (hd : ∀ H acc, Same H1 H → H D = some (.lst acc) → Paired (R H) acc (ys.filterMap id) → Qd H) :
    ∃ W : Nat → Nat → Hp → Prop, (∃ m, W 0 m (upd H1 D (.lst []))) ∧ ∀ i m H, W i m H →
      ((Itk a od kvs).stop i H ∧ Qd H) ∨ ((Itk a od kvs).go i H ∧ ∃ Nx : Hp → Prop, (∀ H', Nx H' → ∃ m', m' < m ∧ W (i + 1) m' H') ∧ ∀ x H', (Itk a od kvs).yld i H x H' → g x (wipe σ vs) H' fun σ2 H2 => wipe σ2 vs = wipe σ vs ∧ tt σ2 H2 fun b H3 =>
        if b = true then te σ2 H3 fun y H4 => ∃ acc, H4 D = some (.lst acc) ∧ acc.length < sizeLine ∧ Nx (upd H4 D (.lst (acc ++ [y]))) else Nx H3) := by
  refine ⟨fun i m H => m = ys.length - i ∧ i ≤ ys.length ∧ Acc R H1 D ys i H, ⟨ys.length, by simp, Nat.zero_le _, acc_zero hD⟩, ?_⟩
  rintro i m H ⟨rfl, hi, p⟩
  have q := CP.Same.to p.1 ha
  by_cases lt : i < ys.length
  · refine .inr ⟨⟨q, by omega⟩, Acc R H1 D ys (i + 1), fun H' p' => ⟨ys.length - (i + 1), by omega, rfl, lt, p'⟩, fun x H' y => ?_⟩
    obtain ⟨rfl, k, v, hk, rfl⟩ := y
    exact turn_of mono hD hz p (List.getElem?_eq_getElem lt) (hs i k v _ _ hk (List.getElem?_eq_getElem lt) p.1 (p.2.imp fun _ z => z.1))
  · have e : i = ys.length := by omega
    subst e
    obtain ⟨s, acc, e, pr⟩ := acc_end mono p
    exact .inl ⟨⟨q, by omega⟩, hd H acc s e pr⟩
theorem lc_keysN (hD : H1 D = none) (ha : H1 a = some (.frz od (.dK kvs))) (hz : kvs.length < sizeLine)
    (hs : ∀ (i : Nat) (k : Key) (v : V) (H : Hp), kvs[i]? = some (k, v) → Same H1 H → Turn (β := V) g tt te vs σ (fun _ x b => x = b) D H (kV k) none) (hd : ∀ H, Same H1 H → H D = some (.lst []) → Qd H) :
    ∃ W : Nat → Nat → Hp → Prop, (∃ m, W 0 m (upd H1 D (.lst []))) ∧ ∀ i m H, W i m H →
      ((Itk a od kvs).stop i H ∧ Qd H) ∨ ((Itk a od kvs).go i H ∧ ∃ Nx : Hp → Prop, (∀ H', Nx H' → ∃ m', m' < m ∧ W (i + 1) m' H') ∧ ∀ x H', (Itk a od kvs).yld i H x H' → g x (wipe σ vs) H' fun σ2 H2 => wipe σ2 vs = wipe σ vs ∧ tt σ2 H2 fun b H3 =>
        if b = true then te σ2 H3 fun y H4 => ∃ acc, H4 D = some (.lst acc) ∧ acc.length < sizeLine ∧ Nx (upd H4 D (.lst (acc ++ [y]))) else Nx H3) := by
  refine lc_keys (β := V) (fun _ x b => x = b) (kvs.map fun _ => none) hD ha (by rw [List.length_map]) (by rw [List.length_map]; exact hz) (fun _ _ _ _ _ z => z) (fun i k v o H hk ho s1 _ => ?_) fun H acc s1 hacc pp => ?_
  · have e : o = none := by
      rw [List.getElem?_map, hk] at ho
      exact (Option.some.inj ho).symm
    subst e
    exact hs i k v H hk s1
  · have e : acc = [] := by
      rw [pd_eq pp]
      clear pp hs hz ha
      induction kvs with
      | nil => rfl
      | cons _ xs ih => exact ih
    subst e
    exact hd H s1 hacc
end
section
variable {K : PySem.W.Frag} {σ : L2.St} {H : Hp} {Q : VK} {te : TE} {a : Addr} {xs : List V}
theorem r_revL (q : te σ H fun x H1 => ∃ a xs, x = .ref a ∧ SqL K H1 a xs ∧ ∀ p, H1 p = none → Q (.ref p) (upd H1 p (.lst xs.reverse))) : tRevL K te σ H Q := q
theorem r_rev (h : SqL K H a xs) (q : ∀ p H', H p = none → Same H H' → H' p = some (.lst xs.reverse) → Q (.ref p) H') : ∃ b ys, V.ref a = .ref b ∧ SqL K H b ys ∧ ∀ p, H p = none → Q (.ref p) (upd H p (.lst ys.reverse)) :=
  ⟨a, xs, rfl, h, fun p hp => q p _ hp (same_new hp) upd_same⟩
end
theorem getD_mem : ∀ {l : List (Str × Int)} {p : Str × Int}, (l.map (·.1)).Nodup → p ∈ l → getD l p.1 = some p.2
  | a :: l, p, nd, h => by
    unfold getD
    rcases List.mem_cons.mp h with e | h
    · subst e; rw [if_pos rfl]
    · have ne : a.1 ≠ p.1 := fun e => (List.pairwise_cons.mp nd).1 p.1 (List.mem_map.mpr ⟨p, h, rfl⟩) e
      rw [if_neg ne]
      exact getD_mem (List.pairwise_cons.mp nd).2 h
theorem dV_get {l : List (Str × Int)} {i : Nat} {k : Key} {v : V} (h : (dV l)[i]? = some (k, v)) : ∃ p, p ∈ l ∧ k = Sum.inr p.1 ∧ v = .int p.2 := by
  unfold dV at h
  rw [List.getElem?_map] at h
  cases e : l[i]? with
  | none => rw [e] at h; cases h
  | some p =>
    rw [e] at h
    cases h
    exact ⟨p, List.mem_of_getElem? e, rfl, rfl⟩
theorem setD_nd {l : List (Str × Int)} {k : Str} {n : Int} (nd : (l.map (·.1)).Nodup) : ((setD l k n).map (·.1)).Nodup := by
  by_cases h : k ∈ l.map (·.1)
  · rw [setD_keys h]; exact nd
  · rw [setD_new h, List.map_append, List.nodup_append]
    exact ⟨nd, by simp, fun a ha b hb e => h (by have eb : b = k := List.mem_singleton.mp hb; rw [← eb, ← e]; exact ha)⟩
end CP

set_option Elab.async false
set_option linter.all false
set_option maxRecDepth 100000
set_option maxHeartbeats 4000000
set_option autoImplicit false
/-! heaps in which one object or two may change; what the law draws -/
namespace CP
open L2 PySem PyProof.Rows
theorem SB.free' {p c : Addr} {H H' : Hp} {o : HO} (s : SB p H H') (hp : H' p = some o) (h : H' c = none) : H c = none := by
  cases e : H c with
  | none => rfl
  | some u =>
    have ne : c ≠ p := fun z => by rw [z, hp] at h; cases h
    rw [s c u ne e] at h
    cases h
theorem Same.sb' {p : Addr} {H H' : Hp} (s : Same H H') : SB p H H' := fun b o _ e => s b o e
theorem SB.trans' {p : Addr} {H H1 H2 : Hp} (s : SB p H H1) (t : SB p H1 H2) : SB p H H2 := fun b o ne e => t b o ne (s b o ne e)
/-- new at q, then changed at q -/
theorem SB.fresh {p q : Addr} {H H1 H2 : Hp} (s : SB p H H1) (hq : H q = none) (t : SB q H1 H2) : SB p H H2 := fun b o ne e => t b o (fun z => by rw [z, hq] at e; cases e) (s b o ne e)
/-- the heap without two objects -/
def hid2 (p q : Addr) (H : Hp) : Hp := fun b => if b = p ∨ b = q then none else H b
theorem hid2_at {p q b : Addr} {H : Hp} {o : HO} (h : H b = some o) (n1 : b ≠ p) (n2 : b ≠ q) : hid2 p q H b = some o := by
  unfold hid2
  rw [if_neg (fun z => z.elim n1 n2)]
  exact h
theorem hid2_same {p q : Addr} {H : Hp} : Same (hid2 p q H) H := fun b o h => by
  unfold hid2 at h
  split at h
  · cases h
  · exact h
theorem hid2_p {p q : Addr} {H H' : Hp} (s : SB p H H') : Same (hid2 p q H) (hid2 p q H') := fun b o h => by
  unfold hid2 at h ⊢
  split at h
  · cases h
  · rename_i n
    rw [if_neg n]
    exact s b o (fun z => n (.inl z)) h
theorem hid2_q {p q : Addr} {H H' : Hp} (s : SB q H H') : Same (hid2 p q H) (hid2 p q H') := fun b o h => by
  unfold hid2 at h ⊢
  split at h
  · cases h
  · rename_i n
    rw [if_neg n]
    exact s b o (fun z => n (.inr z)) h
theorem hid2_s {p q : Addr} {H H' : Hp} (s : Same H H') : Same (hid2 p q H) (hid2 p q H') := hid2_p (Same.sb' s)
/-- the letters that the law uses for sizes, for names -/
def sizeW : List Str := ["m", "n", "n", "mn", "p", "abc", "height", "nm"]
def nameW : List Str := ["r", "c", "z", "kk", "a", "page", "columnes", "abcdefghij"]
theorem sizeW_let : ∀ x ∈ sizeW, letB x = true := by decide +kernel
theorem nameW_let : ∀ x ∈ nameW, letB x = true := by decide +kernel
theorem nameW_nd : nameW.Nodup := by decide +kernel
theorem sizeW_out : ∀ x ∈ sizeW, x ∉ nameW := by decide +kernel
theorem ins_perm {α : Type} (l : List α) (i : Nat) (x : α) : (l.take i ++ [x] ++ l.drop i).Perm (x :: l) := by
  have h : (l.take i ++ [x] ++ l.drop i).Perm (x :: (l.take i ++ l.drop i)) := by
    rw [List.append_assoc]
    exact List.perm_middle
  rw [List.take_append_drop] at h
  exact h
/-- a list of values whose items are texts -/
theorem strs_of_perm {l : List Str} {ys : List V} (h : ys.Perm (strL l)) : ∃ m, ys = strL m ∧ m.Perm l := by
  have all : ∀ y ∈ ys, ∃ z, y = V.str z := fun y hy => by
    obtain ⟨z, _, rfl⟩ := List.mem_map.mp (h.mem_iff.mp hy)
    exact ⟨z, rfl⟩
  let f : V → Str := fun v => match v with | .str z => z | _ => Str.empty
  have e1 : ys = strL (ys.map f) := by
    clear h
    induction ys with
    | nil => rfl
    | cons y ys ih =>
      obtain ⟨z, rfl⟩ := all y (List.mem_cons_self ..)
      have := ih fun x hx => all x (List.mem_cons_of_mem _ hx)
      show _ :: _ = _ :: strL _
      rw [← this]
  refine ⟨ys.map f, e1, ?_⟩
  have e2 : (strL l).map f = l := by
    unfold strL
    rw [List.map_map]
    exact List.map_id l
  have := h.map f
  rwa [e2] at this
theorem cut_strs (l : List Str) (n : Nat) : cutV (strL l) none (some (n : Int)) = strL (l.take n) := by
  unfold cutV
  rw [HT.sIx_none, HT.sIx_nat, List.drop_zero, Nat.sub_zero, strL_len]
  unfold strL
  rw [← List.map_take]
  congr 1
  by_cases h : n ≤ l.length
  · rw [Nat.min_eq_left h]
  · rw [Nat.min_eq_right (by omega), List.take_length, List.take_of_length_le (by omega)]
theorem cut_tail (xs : List V) (n : Nat) : cutV xs (some (n : Int)) none = xs.drop n := by
  unfold cutV
  rw [HT.sIx_none, HT.sIx_nat]
  by_cases h : n ≤ xs.length
  · rw [Nat.min_eq_left h, List.take_of_length_le (by rw [List.length_drop]; omega)]
  · rw [Nat.min_eq_right (by omega), List.drop_length, List.drop_of_length_le (by omega), List.take_nil]
theorem getItem_size : ∀ x ∈ ([.int 2, .int 2, .int 3] : List V), x = .int 2 ∨ x = .int 3 := by
  intro x hx
  simp only [List.mem_cons, List.not_mem_nil, or_false] at hx
  rcases hx with h | h | h
  · exact .inl h
  · exact .inl h
  · exact .inr h
/-- rows as the law draws them -/
structure Drawn (rows : List Sd) : Prop where
  name : ∀ r ∈ rows, r.1 ∈ nameW
  size : ∀ r ∈ rows, (∀ w ∈ r.2.1, w ∈ sizeW) ∧ r.2.1.length ≤ 3
  step : ∀ r ∈ rows, (∀ w ∈ r.2.2, w ∈ sizeW) ∧ r.2.2.length ≤ 6
theorem Drawn.rows {rows : List Sd} (h : Drawn rows) (ne : rows ≠ []) (nd : (rows.map (·.1)).Nodup) (few : rows.length ≤ 20) : Rows rows := by
  refine ⟨ne, few, fun r hr => nameW_let _ (h.name r hr), fun r hr => ⟨fun x hx => sizeW_let x ((h.size r hr).1 x hx), by have := (h.size r hr).2; omega⟩, fun r hr => ⟨fun x hx => sizeW_let x ((h.step r hr).1 x hx), by have := (h.step r hr).2; omega⟩, nd, fun r hr x hx m => ?_⟩
  obtain ⟨r2, h2, e⟩ := List.mem_map.mp m
  have xs : x ∈ sizeW := by
    rcases List.mem_append.mp hx with z | z
    · exact (h.size r hr).1 x z
    · exact (h.step r hr).1 x z
  exact sizeW_out x xs (by rw [← e]; exact h.name r2 h2)
/-- all but two stand -/
def SB2 (p q : Addr) (H H' : Hp) : Prop := ∀ b o, b ≠ p → b ≠ q → H b = some o → H' b = some o
theorem SB2.refl {p q : Addr} {H : Hp} : SB2 p q H H := fun _ _ _ _ e => e
theorem SB2.p {p q : Addr} {H H1 H2 : Hp} (s : SB2 p q H H1) (t : SB p H1 H2) : SB2 p q H H2 := fun b o n1 n2 e => t b o n1 (s b o n1 n2 e)
theorem SB2.q {p q : Addr} {H H1 H2 : Hp} (s : SB2 p q H H1) (t : SB q H1 H2) : SB2 p q H H2 := fun b o n1 n2 e => t b o n2 (s b o n1 n2 e)
theorem SideAt.at2 {p c : Addr} {H : Hp} {t a b : Addr} {r : Sd} (h1 : H t = some (.tup [.str r.1, .ref a, .ref b])) (h2 : H a = some (.lst (strL r.2.1))) (h3 : H b = some (.lst (strL r.2.2)))
    (n1 : t ≠ p) (n2 : t ≠ c) (n3 : a ≠ p) (n4 : a ≠ c) (n5 : b ≠ p) (n6 : b ≠ c) : SideAt (hid2 p c H) (.ref t) r := ⟨t, a, b, rfl, hid2_at h1 n1 n2, hid2_at h2 n3 n4, hid2_at h3 n5 n6⟩
theorem Drawn.add {rows : List Sd} (h : Drawn rows) {w : Str} {l m : List Str} (hw : w ∈ nameW) (hl : ∀ x ∈ l, x ∈ sizeW) (ll : l.length ≤ 3) (hm : ∀ x ∈ m, x ∈ sizeW) (ml : m.length ≤ 6) : Drawn (rows ++ [(w, l, m)]) := by
  have all : ∀ r ∈ rows ++ [(w, l, m)], r ∈ rows ∨ r = (w, l, m) := fun r hr => (List.mem_append.mp hr).imp id List.mem_singleton.mp
  refine ⟨fun r hr => ?_, fun r hr => ?_, fun r hr => ?_⟩
  · rcases all r hr with z | rfl
    · exact h.name r z
    · exact hw
  · rcases all r hr with z | rfl
    · exact h.size r z
    · exact ⟨hl, ll⟩
  · rcases all r hr with z | rfl
    · exact h.step r z
    · exact ⟨hm, ml⟩
theorem hid2_pp {p c : Addr} {H : Hp} : Same (hid2 p c H) (hid2 p p H) := fun b o h => by
  unfold hid2 at h ⊢
  split at h
  · cases h
  · rename_i n
    rw [if_neg (fun z => n (.inl (z.elim id id)))]
    exact h
section
variable {K : PySem.W.Frag} {a : Addr} {xs : List V} {g : TG} {tb : TS} {D : Ends} {σ : L2.St} {H : Hp} {ta : TA}
theorem r_iEnum {R : It → Hp → Prop} (q : ta σ H fun vs H1 => ∃ a xs, vs = [.ref a] ∧ SqL K H1 a xs ∧ R (Ite K a) H1) : iEnum K ta σ H R := q
theorem for_enum (Pv : Nat → L2.St → Hp → Prop) (start : Pv 0 σ H) (stay : ∀ i σ H, i ≤ xs.length → Pv i σ H → SqL K H a xs)
    (step : ∀ i x σ H T H', xs[i]? = some x → Pv i σ H → Same H H' → H' T = some (.tup [.int (i : Nat), x]) → g (.ref T) σ H' fun σ2 H2 => tb { D with nx := Pv (i + 1), ct := Pv (i + 1), bk := D.nx } σ2 H2) (fin : ∀ σ H, Pv xs.length σ H → D.nx σ H) :
    ∃ W : Nat → Nat → L2.St → Hp → Prop, (∃ m, W 0 m σ H) ∧ ∀ i m σ H, W i m σ H →
      ((Ite K a).stop i H ∧ D.nx σ H) ∨ ((Ite K a).go i H ∧ ∃ N : L2.St → Hp → Prop, (∀ σ' H', N σ' H' → ∃ m', m' < m ∧ W (i + 1) m' σ' H') ∧ ∀ x H', (Ite K a).yld i H x H' → g x σ H' fun σ2 H2 => tb { D with nx := N, ct := N, bk := D.nx } σ2 H2) := by
  refine ⟨fun i m σ H => m = xs.length - i ∧ i ≤ xs.length ∧ Pv i σ H, ⟨_, rfl, Nat.zero_le _, start⟩, fun i m σ H ⟨em, hi, p⟩ => ?_⟩
  subst em
  have q := stay i σ H hi p
  rcases Nat.lt_or_ge i xs.length with lt | ge
  · refine .inr ⟨⟨xs, xs[i], q, List.getElem?_eq_getElem lt⟩, Pv (i + 1), fun σ' H' p' => ⟨xs.length - (i + 1), by omega, rfl, lt, p'⟩, fun x H' y => ?_⟩
    obtain ⟨T, z, rfl, T0, rfl, hx⟩ := y
    exact step i z σ H T _ (hx xs q) p (same_new T0) upd_same
  · have e : i = xs.length := by omega
    subst e
    exact .inl ⟨⟨xs, q, (Nat.le_refl _ : xs.length ≤ xs.length)⟩, fin σ H p⟩
end
/-- the step of the one times its size divides the step of the other -/
def Fits (r s : Sd) : Prop := ∀ w, (r.2.1 ++ r.2.2).count w ≤ s.2.2.count w
def Comp (r s : Sd) : Prop := Fits r s ∨ Fits s r
theorem fits_ahead {r s : Sd} (h : Fits r s) : aheadB (srow r) (srow s) = true := by
  unfold aheadB
  obtain ⟨m, hm⟩ := restOf_some (o := (srow r).2.1 ++ (srow r).2.2) (l := (srow s).2.2) fun w => by
    show (srt r.2.1 ++ srt r.2.2).count w ≤ (srt s.2.2).count w
    have := h w
    rw [List.count_append, (srt_perm r.2.1).count_eq, (srt_perm r.2.2).count_eq, (srt_perm s.2.2).count_eq, ← List.count_append]
    exact this
  rw [hm]
  rfl
theorem ordGo_ok : ∀ {rs f : List Sd}, (∀ x ∈ f, ∀ r ∈ rs, r.2.1 ≠ [] → aheadB x r = true ∨ aheadB r x = true) → rs.Pairwise (fun r s => r.2.1 ≠ [] → s.2.1 ≠ [] → aheadB r s = true ∨ aheadB s r = true) → ∃ fs, ordGo f rs = .inl fs
  | [], f, _, _ => ⟨f, rfl⟩
  | r :: rs, f, h, p => by
    unfold ordGo
    obtain ⟨p1, p2⟩ := List.pairwise_cons.mp p
    by_cases e : r.2.1 = []
    · rw [if_pos e]
      exact ordGo_ok (fun x hx s hs => h x hx s (List.mem_cons_of_mem _ hs)) p2
    · rw [if_neg e]
      have fe : f.filter (fun f => !aheadB f r && !aheadB r f) = [] := List.filter_eq_nil_iff.mpr fun x hx z => by
        rcases h x hx r (List.mem_cons_self ..) e with k | k <;> rw [k] at z <;> simp at z
      rw [fe]
      refine ordGo_ok (fun x hx s hs ne => ?_) p2
      rcases List.mem_append.mp hx with hx | hx
      · rcases List.mem_append.mp hx with hx | hx
        · exact h x (List.mem_of_mem_take hx) s (List.mem_cons_of_mem _ hs) ne
        · rw [List.mem_singleton.mp hx]
          exact p1 s hs e ne
      · exact h x (List.mem_of_mem_drop hx) s (List.mem_cons_of_mem _ hs) ne
theorem order_ok {rows : List Sd} (h : (rows.filter fun r => decide (r.2.1 ≠ [])).Pairwise Comp) : ∃ fs, orderM (rows.map srow) = .inl fs := by
  refine ordGo_ok (by simp) ?_
  have : rows.Pairwise fun r s => r.2.1 ≠ [] → s.2.1 ≠ [] → Comp r s := by
    rw [List.pairwise_filter] at h
    exact h.imp fun {a b} k n1 n2 => k (decide_eq_true n1) (decide_eq_true n2)
  refine List.pairwise_map.mpr (this.imp fun {r s} k n1 n2 => ?_)
  have ne : ∀ {l : List Str}, srt l ≠ [] → l ≠ [] := fun z e => z (by rw [e]; exact List.eq_nil_of_length_eq_zero (srt_len []))
  rcases k (ne n1) (ne n2) with z | z
  · exact .inl (fits_ahead z)
  · exact .inr (fits_ahead z)
theorem r_makeK {C : Addr} {n m : Nat} {sp : Sp} {gV : List V → List V → List V} {E : XK} {t tk : TA} {σ : L2.St} {H : Hp} {Q : VK} (q : t σ H fun vs H1 => tk σ H1 fun zs H2 => vs.length = n ∧ zs.length = m ∧ ∀ x dx, H2 x = none → H2 dx = none → dx ≠ x →
  sp (gV (.ref x :: vs) zs) (upd (upd H2 dx (.own x)) x (.ins C dx [])) (fun v H3 => v = .non ∧ Q (.ref x) H3) E) : tMakeK C n m sp gV E t tk σ H Q := q
end CP
namespace CP
open L2 PySem PyProof.Rows
theorem OwnAt.mono {rows : List Sd} {v : V} {H H' : Hp} (h : OwnAt rows v H) (s : Same H H') : OwnAt rows v H' := by
  unfold OwnAt at *
  split at h
  · rename_i fs e
    obtain ⟨p, rfl, hp⟩ := h
    exact ⟨p, rfl, CP.Same.to s hp⟩
  · rename_i z e
    exact h
theorem ClashAt.mono {rows : List Sd} {v : V} {H H' : Hp} (h : ClashAt rows v H) (s : Same H H') : ClashAt rows v H' := by
  unfold ClashAt at *
  split at h
  · rename_i kv c1 c2 e
    obtain ⟨nd, t, d, x, y, rfl, h1, h2, h3, h4⟩ := h
    exact ⟨nd, t, d, x, y, rfl, CP.Same.to s h1, CP.Same.to s h2, CP.Same.to s h3, CP.Same.to s h4⟩
  · rename_i e
    exact h
theorem HoleAt.mono {rows fs : List Sd} {v : V} {H H' : Hp} (h : HoleAt rows fs v H) (s : Same H H') : HoleAt rows fs v H' := by
  unfold HoleAt at *
  split at h
  · rename_i kv n e
    obtain ⟨nd, t, d, rfl, h1, h2⟩ := h
    exact ⟨nd, t, d, rfl, CP.Same.to s h1, CP.Same.to s h2⟩
  · rename_i e
    exact h
theorem CellAt.mono {rows fs : List Sd} {f : Str → Int} {n : Int} {v : V} {H H' : Hp} (h : CellAt rows fs f n v H) (s : Same H H') : CellAt rows fs f n v H' := by
  unfold CellAt at *
  split at h
  · rename_i c e
    obtain ⟨p, rfl, h1⟩ := h
    exact ⟨p, rfl, CP.Same.to s h1⟩
  · rename_i e
    exact h
section
variable {K : PySem.W.Frag} {H : Hp} {Q : VK} {v v' : V} {rows fs : List Sd}
theorem non_ne (q : Q (.bl false) H) : rNeX K .non .non H Q := .inl (r_ne rfl (by rw [decide_eq_true rfl]; exact q))
theorem own_ne (hR : Rows rows) (h1 : OwnAt rows v H) (h2 : OwnAt rows v' H) (q : Q (.bl false) H) : rNeX K v v' H Q := by
  unfold OwnAt at *
  split at h1
  · rename_i fs e
    rw [e] at h2
    obtain ⟨p, rfl, hp⟩ := h1
    obtain ⟨p2, rfl, hp2⟩ := h2
    have lay : ∀ x ∈ fs.map (·.1), (PyData.str x).canLay0 = true := fun x hx => by
      obtain ⟨r, hr, rfl⟩ := List.mem_map.mp hx
      exact let_lay (hR.name r ((order_inl e).1 r hr))
    exact strs_neX (.of hp) (.of hp2) lay lay (by rw [decide_eq_true rfl]; exact q)
  · rename_i z e
    rw [e] at h2
    cases h1
    cases h2
    exact non_ne q
theorem dV_sq {n : Nat} {a b : Addr} {kv : List (Str × Int)} (nd : (kv.map (·.1)).Nodup) (h1 : H a = some (.dK (dV kv))) (h2 : H b = some (.dK (dV kv))) : SqV K H (n + 2) (.ref a) (.ref b) := by
  refine .inr (.inr (.inr (.inr ⟨a, b, _, _, rfl, rfl, h1, h2, rfl, fun p hp => ?_⟩)))
  unfold dV at hp
  obtain ⟨u, hu, rfl⟩ := List.mem_map.mp hp
  exact ⟨.int u.2, by show valV (dV kv) (Sum.inr u.1) = _; rw [dV_val, getD_mem nd hu]; rfl, .inl ⟨rfl, rfl⟩⟩
theorem ints_sq {n : Nat} {a b : Addr} {l : List Int} (h1 : H a = some (.lst (l.map V.int))) (h2 : H b = some (.lst (l.map V.int))) : SqV K H (n + 2) (.ref a) (.ref b) := by
  refine .inr (.inr (.inl ⟨a, b, _, _, rfl, rfl, .of h1, .of h2, ?_⟩))
  clear h1 h2
  induction l with
  | nil => exact .nil
  | cons x l ih => exact .cons (.inl ⟨rfl, rfl⟩) ih
theorem clash_ne (h1 : ClashAt rows v H) (h2 : ClashAt rows v' H) (q : Q (.bl false) H) : rNeX K v v' H Q := by
  unfold ClashAt at *
  cases e : clashM rows with
  | none =>
    rw [e] at h1 h2
    cases h1
    cases h2
    exact non_ne q
  | some z =>
    obtain ⟨kv, c1, c2⟩ := z
    rw [e] at h1 h2
    obtain ⟨nd, t, d, x, y, rfl, a1, a2, a3, a4⟩ := h1
    obtain ⟨_, t2, d2, x2, y2, rfl, b1, b2, b3, b4⟩ := h2
    exact .inr (.inr ⟨3, t, t2, _, _, by decide, rfl, rfl, .inr ⟨.of a1, .of b1⟩, .cons (dV_sq nd a2 b2) (.cons (ints_sq a3 b3) (.cons (ints_sq a4 b4) .nil)), q⟩)
theorem hole_ne (h1 : HoleAt rows fs v H) (h2 : HoleAt rows fs v' H) (q : Q (.bl false) H) : rNeX K v v' H Q := by
  unfold HoleAt at *
  cases e : holeM (sizesM rows) fs with
  | none =>
    rw [e] at h1 h2
    cases h1
    cases h2
    exact non_ne q
  | some z =>
    obtain ⟨kv, n⟩ := z
    rw [e] at h1 h2
    obtain ⟨nd, t, d, rfl, a1, a2⟩ := h1
    obtain ⟨_, t2, d2, rfl, b1, b2⟩ := h2
    exact .inr (.inr ⟨3, t, t2, _, _, by decide, rfl, rfl, .inr ⟨.of a1, .of b1⟩, .cons (dV_sq nd a2 b2) (.cons (.inl ⟨rfl, rfl⟩) .nil), q⟩)
theorem cell_ne {f : Str → Int} {n : Int} (h1 : CellAt rows fs f n v H) (h2 : CellAt rows fs f n v' H) (q : Q (.bl false) H) : rNeX K v v' H Q := by
  unfold CellAt at *
  cases e : foundM rows fs f n with
  | none =>
    rw [e] at h1 h2
    cases h1
    cases h2
    exact non_ne q
  | some c =>
    rw [e] at h1 h2
    obtain ⟨p, rfl, a1⟩ := h1
    obtain ⟨p2, rfl, b1⟩ := h2
    refine .inr (.inr ⟨3, p, p2, _, _, by decide, rfl, rfl, .inl ⟨.of a1, .of b1⟩, ?_, q⟩)
    clear a1 b1 e
    induction c with
    | nil => exact .nil
    | cons x l ih => exact .cons (.inl ⟨rfl, rfl⟩) ih
end
end CP

set_option Elab.async false
set_option linter.all false
set_option maxRecDepth 100000
set_option maxHeartbeats 4000000
set_option autoImplicit false
/-! promises of defs that are kept where no repr is under way (so that repr of lists and tuples may be asked), and repr -/
namespace CP
open L2 PySem PyProof.Rows
/-- no repr is under way -/
def Gd (A : Around) : Prop := A.guards = some []
structure FnG (P : Program) (w : World) (K : PySem.W.Frag) (mg : Str → Option Value) (base : Heap) (CX : CXT) (k : Nat) (f : Addr) (fd : FuncData) (ps : List Str) (sp : Sp) : Prop where
  wide : ∀ zs h Q E, sp zs h Q E → zs.length = ps.length
  goes : ∀ (B : Around), Gd B → Room k B → ∀ (out : List Env) (t : Shared) (h : Hp) (args : Args) (us : List Value) (zs : List V) (Q : VK) (E : XK), Env0 P w K mg base B out t h → BindsTo t fd args (ps.zip us) → Vals zs us → sp zs h Q E →
    codeAny (model P w) B (.call (.ref f) args) (CR CX out P w h t Q E) t
section
variable {CX : CXT} {P : Program} {w : World} {K : PySem.W.Frag} {mg : Str → Option Value} {base : Heap} {k : Nat} {f : Addr} {fd : FuncData} {ps : List Str} {sp sp' : Sp}
theorem FnG.of (F : FnOk P w K mg base CX k f fd ps sp) : FnG P w K mg base CX k f fd ps sp :=
  ⟨F.len, fun B _ hr out t h args us zs Q E => F.run B out t h args us zs Q E hr⟩
theorem FnG.imp (F : FnG P w K mg base CX k f fd ps sp) (i : ∀ vs H Q E, sp' vs H Q E → sp vs H Q E) : FnG P w K mg base CX k f fd ps sp' :=
  ⟨fun zs h Q E q => F.wide zs h Q E (i _ _ _ _ q), fun B g hr out t h args us zs Q E e b v q => F.goes B g hr out t h args us zs Q E e b v (i _ _ _ _ q)⟩
/-- the rule for a def: its body is read where no repr is under way -/
theorem fnG_of {name qual : Str} {params : Arguments} {body : List Stmt} {scope : Scope} {dV kV doc pm cdv ct oc : Value} {an od : Option Addr} {osl : Array (Option Value)} {N : List Str}
    (lk : K.lookup f = some ⟨oc, od, .func (PySem.W.fnOf name qual params body scope dV kV doc pm an cdv ct), osl⟩) (hcd : PySem.W.codeIn K cdv qual = true) (S : FnScope N ps scope) (wide : ∀ zs h Q E, sp zs h Q E → zs.length = ps.length)
    (hb : ∀ (B : Around) (out : List Env) (t : Shared) (h : Hp) (zs : List V) (Q : VK) (E : XK), Gd (B.deeper (envOfC qual scope t.heap.objs.size f cdv)) → Room k (B.deeper (envOfC qual scope t.heap.objs.size f cdv)) → sp zs h Q E →
      ∃ r, PSs (cxOf CX P w K mg base N qual scope f cdv B out t h E) body r ∧ r { nx := fun _ h' => Q .non h', rt := Q } (start N zs) h) :
    FnG P w K mg base CX (k + 1) f (PySem.W.fnOf name qual params body scope dV kV doc pm an cdv ct) ps sp := by
  refine ⟨wide, fun B gd room out t h args us zs Q E env bind vals pr => ?_⟩
  have kin : K.In t.heap := env.mod.kin.keeps fun b o z => (env.bs b o z).1
  have nolim : t.heap.NoLimit := env.mod.nolimit.keeps fun b o z => (env.bs b o z).1
  have kinds : ∀ y ∈ ps.zip us, scope.names.lookup y.1 = some .local ∨ (scope.names.lookup y.1 = some .cell ∧ ((cellsFrom (t.heap.objs.size + 1) scope.names []).lookup y.1).isSome = true) := fun y hy =>
    (S.par y.1 (List.of_mem_zip (b := y.2) hy).1).imp id fun z => ⟨z, PySem.W.cellsFrom_some _ _ _ (.inl z)⟩
  refine codeAny_call_function room.depth (kin _ _ lk) rfl S.co S.gen rfl (PySem.W.codeRec_of kin hcd) (bind _ _ _ _ (wpAny_newFunctionEnv_cells S.kind kinds fun e he t1 x => ?_))
  cases he
  refine ⟨nolim.keeps x.toInCall.keep, codeAny_func ?_⟩
  obtain ⟨r, hr, hq⟩ := hb B out t h zs Q E gd (room.deeper _) pr
  refine wpAny_mono (hr.run [] t1 (start N zs) h _ (inv_start S room.hd env (wide _ _ _ _ pr) vals x) hq) (fun fl t' z => ?_) fun _ _ z => z
  match fl, z with
  | .ret u, ⟨v, _, h', J, rv, q⟩ => exact ⟨v, h', J.os, J.bare, J.base, J.hok, rv, q⟩
  | .next, ⟨_, h', J, q⟩ => exact ⟨V.non, h', J.os, J.bare, J.base, J.hok, rfl, q⟩
  | .brk, ⟨_, _, _, q⟩ => exact q.elim
  | .cont, ⟨_, _, _, q⟩ => exact q.elim
theorem Fun.okG {x qual : Str} {st : Stmt} {N : List Str} (F : Fun K x qual st f fd) (S : FnScope N ps (defScope st)) (wide : ∀ zs h Q E, sp zs h Q E → zs.length = ps.length)
    (hb : ∀ (cdv : Value) (B : Around) (out : List Env) (t : Shared) (h : Hp) (zs : List V) (Q : VK) (E : XK), Gd (B.deeper (envOfC qual (defScope st) t.heap.objs.size f cdv)) → Room k (B.deeper (envOfC qual (defScope st) t.heap.objs.size f cdv)) → sp zs h Q E →
      ∃ r, PSs (cxOf CX P w K mg base N qual (defScope st) f cdv B out t h E) (defBody st) r ∧ r { nx := fun _ h' => Q .non h', rt := Q } (start N zs) h) : FnG P w K mg base CX (k + 1) f fd ps sp := by
  obtain ⟨oc, od, kV, doc, pm, an, cdv, ct, osl, rfl, lk, hcd⟩ := F.ex
  exact fnG_of lk hcd S wide fun B out t h zs Q E => hb cdv B out t h zs Q E
end
/-! calls of such -/
section
variable {X : Cx} {CX : CXT} {k m : Nat} {f : Addr} {fd : FuncData} {ps ks : List Str} {sp : Sp} {dvs : List V} {ds : List Value} {E : XK} {x : Str} {p pos : Pos} {e : Expr} {es : List Expr} {t : TA}
theorem runG {pins : List (Addr × Obj)} {σ : L2.St} {H : Hp} {s : Shared} {Q : VK} {ws : List Value} {args : Args} {vs : List V} (F : FnG X.prog X.w X.K X.mg X.base CX k f fd ps sp) (gd : Gd X.A) (hr : Room k X.A) (hb : BindsTo s fd args (ps.zip ws)) (hx : Passes CX X E)
    (I : Inv X pins σ H s) (r : Vals vs ws) (h : sp vs H Q E) : codeAny (model X.prog X.w) X.A (.call (.ref f) args) (fun r s' => match r with | .error e => X.xe e s' | .ok (.ret u) => EP X pins σ Q u s' | .ok _ => False) s := by
  refine codeAny_mono (F.goes X.A gd hr X.stack s H args ws vs Q E I.env0 hb r h) fun r s' z => ?_
  match r, z with
  | .error e, z => exact hx pins σ H s e s' I z
  | .ok (.ret u), z => exact I.after z
theorem pe_callG (F : FnG X.prog X.w X.K X.mg X.base CX k f fd ps sp) (gd : Gd X.A) (hr : Room k X.A) (hg : Gl X x) (hm : X.mg x = some (.ref f)) (hk : PySem.W.keepIn X.K (.ref f) = true) (hb : Binds X.K fd ps ds) (hd : Vals dvs ds) (hx : Passes CX X E) (ha : PA X (e :: es) t)
    (hdb : (x == ("__debug__" : Str)) = false := by decide) (he : starEach (e :: es) X.env = (false, eval e X.env) :: starEach es X.env := by rfl) (hpl : (backTo pos (starEach es X.env)).any (·.1) = false := by rfl) :
    PE X (.Call (.Name x p) (e :: es) [] pos) (tCall sp dvs E t) := by
  constructor
  intro pins s σ H Q I h
  refine wpAny_Call_Name_kw (ld_glob I hg hm ?_ hdb)
  refine PySem.W.callWith_K (h₀ := X.base) I.ok.mod.kin hk (thn (ha.run pos pins s σ H _ I h) fun us s1 z => ?_) he hpl
  obtain ⟨zs, H1, I1, r, q⟩ := z
  have r2 : Vals (zs ++ dvs) (us ++ ds) := r.append hd
  refine ⟨I1.kIn, wpAny_call (codeAny_mono (runG F gd hr (hb s1 us I1.kIn (by rw [← r2.length]; exact F.wide _ _ _ _ q)) hx I1 r2 q) fun r s' z => ?_)⟩
  match r, z with
  | .error e, z => exact z
  | .ok (.ret u), z => exact z
/-- repr of data -/
def rRepr (K : PySem.W.Frag) : List V → Hp → VK → Prop := fun xs H Q => ∃ a d, xs = [.ref a] ∧ Dp K H (.ref a) d ∧ d.showable = true ∧ d.hasDict = false ∧ d.depth ≤ 60 ∧ d.shown.length ≤ sizeLine ∧ Q (.str d.shown) H
theorem call_reprD (gd : Gd X.A) (hu : X.A.units + 64 < cLine) : CallR X (.builtin "repr") (rRepr X.K) := by
  intro pins s σ H xs us Q I r h
  obtain ⟨a, d, rfl, hd, hs, hn, h6, hz, q⟩ := h
  obtain ⟨u, rfl, ru⟩ := vals1 r
  obtain ⟨as, rd⟩ := Dp.reads I d _ u hd ru
  cases (show u = Value.ref a from ru)
  exact repr_of_reads' rd hs (fun z => by rw [hn] at z; cases z) gd (by omega) (fun _ _ z => z) (fun h' v tk keep => ⟨.str d.shown, H, inv_grow I keep (Same.refl _) (fun _ _ z => .inl z), ⟨_, rfl⟩, q⟩) hz
end
/-! the law's own call -/
theorem script_at {K : PySem.W.Frag} {P : Program} {w : World} {mg mb : Str → Option Value} {CX : CXT} {k : Nat} {fa a : Addr} {fd : FuncData} {x : Str} {sp : Sp} {t : Shared} {vals : List Value} {H : Hp}
    (KX : K.In t.heap) (G : t.heap.Ns mainGlobals mg) (B : t.heap.Ns builtinsNs mb) (boot : ∀ x : Str, x ≠ "__name__" → mb x = bootBuiltins x) (lim : t.heap.NoLimit) (gens : t.gens = #[])
    (own : t.heap.get? a = some { cls := .type "list", data := .seq vals.toArray }) (room : Room k callerA) (F : ∀ base : Heap, K.In base → base.Ns mainGlobals mg → FnG P w K mg base CX k fa fd [x] sp)
    (bind : ∀ (s : Shared) (u : Value), BindsTo s fd ⟨[u], []⟩ [(x, u)]) (noX : ∀ H e t', CX [] H t (fun _ _ _ => False) e t' → False) (only : Only H) (ok : HOk P w H t.heap) (lone : ∀ b, H b ≠ none → b = a) (notK : H a ≠ none → K.lookup a = none)
    (pr : sp [.ref a] H (fun v _ => v = .bl true) fun _ _ _ => False) :
    codeAny (model P w) callerA (.call (.ref fa) ⟨[.ref a], []⟩) (fun r t' => r = .ok (.ret (.bool true)) ∧ OldK t.heap t'.heap ∧ t'.os = t.os ∧ AllBare t'.gens) t := by
  have low : ∀ {b : Addr} {o : Obj}, t.heap.get? b = some o → H b = none → (hidT t.heap H).get? b = some o := fun z n => hidT_get z n
  have isA : ∀ {b : Addr}, (∀ u, H b = some u → b = a → False) → H b = none := fun {b} z => by
    cases q : H b with
    | none => rfl
    | some u => exact (z u q (lone b (by rw [q]; simp))).elim
  have noD : ∀ {b : Addr} {m : Str → Option Value}, t.heap.Ns b m → (hidT t.heap H).Ns b m := fun {b m} ⟨o, es, ep, z, d, r⟩ => ⟨o, es, ep, low z (isA fun u _ e => by
    subst e
    rw [own] at z
    cases z
    cases (show Data.seq vals.toArray _ = Data.dict es ep from d)), d, r⟩
  have kin : K.In (hidT t.heap H) := fun b o z => low (KX b o z) (isA fun u qu e => by
    subst e
    rw [notK (by rw [qu]; simp)] at z
    cases z)
  obtain ⟨mc, l1, l2⟩ := lim
  have md : Mod K mg (hidT t.heap H) := ⟨kin, noD G, ⟨mb, noD B, boot⟩, mc, noD l1, l2⟩
  have env : Env0 P w K mg (hidT t.heap H) callerA [] t H := ⟨rfl, md, fun b o z => of_hidT z, Nat.le_of_eq (hidT_size _ _), trivial, fun b z => absurd (show b ∈ ([] : List Addr) from z) (by simp), ok, .of_eq gens⟩
  refine codeAny_mono ((F _ kin (noD G)).goes callerA rfl room [] t H ⟨[.ref a], []⟩ [.ref a] [.ref a] _ _ env (bind t (.ref a)) (.cons rfl .nil) pr) fun r t' z => ?_
  match r, z with
  | .error e, z => exact (noX H e t' z).elim
  | .ok (.ret u), ⟨v, H', os, bare, un, ok', ru, q⟩ =>
    cases (show v = .bl true from q)
    cases (show u = Value.bool true from ru)
    refine ⟨rfl, OldK.of_keep fun b o z => ?_, os, bare⟩
    rcases only b with n | ⟨oo, xs, n⟩
    · exact un.keep b o z n (by intro y; exact absurd (show b ∈ ([] : List Addr) from y) (by simp)) (by simp)
    · have g1 := (ok b _ n).1
      rw [z] at g1
      cases g1
      exact (ok' b _ (un.frzs b _ _ n)).1
theorem walk_G {l : PySem.W.OpenLaw} {n k : Nat} {q : Program} {loose : List Str} {XP : (Str → Option Value) → Heap → Prop} {YP : World → Heap → Prop} {d : DefRec} {K : Params → PySem.W.Frag} {CX : World → CXT} {sp : World → Sp} {x : Str}
    (hn : l.most = some n) (hz : n ≤ sizeLine) (hdf : d.params.defaults = []) (room : Room k callerA) (hY : ∀ (w : World) (h : Heap), YP w h → (K w.params).In h)
    (F : ∀ (w : World) (mg : Str → Option Value) (fa : Addr) (h : Heap), (K w.params).In h → h.Ns mainGlobals mg → mg d.name = some (.ref fa) →
      ∃ fd : FuncData, (∀ (s : Shared) (u : Value), BindsTo s fd ⟨[u], []⟩ [(x, u)]) ∧ ∀ base : Heap, (K w.params).In base → base.Ns mainGlobals mg → FnG l.prog w (K w.params) mg base (CX w) k fa fd [x] (sp w))
    (pr : ∀ (w : World) (H : Hp) (a : Addr) (ns : List Int), ns.length ≤ n → Only H → SqL (K w.params) H a (ns.map V.int) → sp w [.ref a] H (fun v _ => v = .bl true) fun _ _ _ => False)
    (noX : ∀ (w : World) (H : Hp) (s : Shared) (e : Value) (s' : Shared), CX w [] H s (fun _ _ _ => False) e s' → False) :
    PySem.W.WalkO q loose XP YP l.row.toRowW d [] (fun f vs => PySem.call f vs) := by
  refine Att.attach_call hn hdf fun w t0 t mg mb fa o pm cd doc a vals ns G Y ho hd hcd hmg own hints few gens => ?_
  have KX := hY w _ Y
  obtain ⟨fd, bind, goes⟩ := F w mg fa _ KX G.T.g hmg
  have rv := vals_ints hints
  have len : ns.length = vals.length := hints.length.symm
  have sz : ns.length ≤ sizeLine := Nat.le_trans few hz
  have core := fun (H : Hp) (only : Only H) (sq : SqL (K w.params) H a (ns.map V.int)) (ok : HOk l.prog w H t.heap) (lone : ∀ b, H b ≠ none → b = a) (notK : H a ≠ none → (K w.params).lookup a = none) =>
    script_at KX G.T.g G.T.b G.T.builtins G.T.nolimit gens own room goes bind (fun H e s' => noX w H t e s') only ok lone notK (pr w H a ns few only sq)
  cases hk : (K w.params).lookup a with
  | some ob =>
    have z := KX a ob hk
    rw [own] at z
    cases z
    exact core (fun _ => none) (fun _ => .inl rfl) (.inr ⟨_, vals.toArray, _, hk, rfl, rfl, rfl, by rw [List.size_toArray, ← len]; exact sz, by simpa using rv⟩) (fun b u z => nomatch (show (none : Option HO) = some u from z)) (fun b z => (z rfl).elim) fun z => (z rfl).elim
  | none =>
    have at_a : ∀ {b : Addr} {u : HO}, (if b = a then some (HO.frz { cls := .type "list", data := .seq vals.toArray } (.lst (ns.map V.int))) else none) = some u → b = a ∧ u = .frz { cls := .type "list", data := .seq vals.toArray } (.lst (ns.map V.int)) := fun {b u} z => by
      split at z
      · rename_i e
        cases z
        exact ⟨e, rfl⟩
      · cases z
    refine core (fun b => if b = a then some (.frz { cls := .type "list", data := .seq vals.toArray } (.lst (ns.map V.int))) else none) (fun b => ?_) (.inl (.inr ⟨{ cls := .type "list", data := .seq vals.toArray }, if_pos rfl⟩)) (fun b u z => ?_) (fun b z => ?_) fun _ => hk
    · by_cases e : b = a
      · exact .inr ⟨_, _, if_pos e⟩
      · exact .inl (if_neg e)
    · obtain ⟨e, hu⟩ := at_a z
      subst hu
      subst e
      exact ⟨own, by rw [List.length_map]; exact sz, vals, _, rv, own⟩
    · by_cases e : b = a
      · exact e
      · exact (z (if_neg e)).elim
end CP

set_option Elab.async false
set_option linter.all false
set_option maxRecDepth 100000
set_option maxHeartbeats 4000000
set_option autoImplicit false
/-! errors of own classes as values: made, their __init__ handed on to a class above, kept -/
namespace CP
open L2 PySem PyProof.Rows
section
variable {X : Cx} {CX : CXT} {C fI CE : Addr} {k : Nat} {fd : FuncData} {ps : List Str} {sp : Sp} {ds : List Value} {dvs : List V} {x : Str} {e : Expr} {es : List Expr} {ta : TA} {p p1 p2 pos : Pos} {mc : Value}
/-- a class over ValueError is called: the new error is tracked from now on -/
theorem run_err {pins : List (Addr × Obj)} {σ : L2.St} {H : Hp} {s : Shared} {us : List Value} {vs : List V} {Q : VK} (T : OexC X.K C)
    (iC : PySem.W.findIn X.K (.ref C) "__init__" = some (some (.ref fI))) (tI : PySem.W.typeIn X.K (.ref fI) = some (.type "function"))
    (F : FnOk X.prog X.w X.K X.mg X.base CX k fI fd ps sp) (hr : Room (k + 1) X.A) (hb : Binds X.K fd ps ds) (hd : Vals dvs ds) (hx : Passes CX X (fun _ _ _ => False))
    (I : Inv X pins σ H s) (r : Vals vs us) (hz : vs.length ≤ 1000)
    (q : ∀ a, H a = none → sp (.ref a :: (vs ++ dvs)) (upd H a (exo a C none)) (fun v H2 => v = .non ∧ Q (.ref a) H2) (fun _ _ _ => False)) :
    wpAny (model X.prog X.w) X.A (call (.ref C) us) (EP X pins σ Q) X.xe s := by
  obtain ⟨nm, qn, N, bs, bm, sn, sub, ab, col, dd, k0, k1, k2, k3, k5, hC, hbm⟩ := T.cls
  obtain ⟨h0, g0, d0, t0, o0⟩ := s
  have le : h0.objs.size ≤ h0.objs.size + 1 := Nat.le_succ _
  have free : H (h0.objs.size + 1) = none := I.hok.fresh le
  have z := q _ free
  have keep : ∀ b o, h0.get? b = some o → ((h0.push (PySem.W.kdv_tup us)).push (PySem.HandSPX.excO C h0.objs.size)).get? b = some o :=
    fun b o eb => Heap.get?_push_of_some _ (Heap.get?_push_of_some _ eb)
  have there : ((h0.push (PySem.W.kdv_tup us)).push (PySem.HandSPX.excO C h0.objs.size)).get? (h0.objs.size + 1) = some (PySem.HandSPX.excO C h0.objs.size) := by heap_get
  have J : Inv X pins σ (upd H (h0.objs.size + 1) (exo (h0.objs.size + 1) C none)) ⟨(h0.push (PySem.W.kdv_tup us)).push (PySem.HandSPX.excO C h0.objs.size), g0, d0, t0, o0⟩ :=
    I.laid (t' := t0) (h' := (h0.push (PySem.W.kdv_tup us)).push (PySem.HandSPX.excO C h0.objs.size)) (o := exo (h0.objs.size + 1) C none) (a := h0.objs.size + 1) keep le (exo_ok there)
  have rr : Vals (V.ref (h0.objs.size + 1) :: (vs ++ dvs)) (Value.ref (h0.objs.size + 1) :: (us ++ ds)) := .cons rfl (r.append hd)
  have len : (Value.ref (h0.objs.size + 1) :: us ++ ds).length = ps.length := by
    have el := rr.length
    rw [F.len _ _ _ _ z] at el
    exact el.symm
  have few : us.length ≤ sizeLine := by
    rw [← Paired.length r, sizeLine_eq]
    omega
  refine wpAny_call (PySem.HandSPX.call_own PySem.F.excBase_ValueError (fun Y => PySem.HandSPX.refsVE_contains Y bm hbm) (I.kIn _ _ hC) (PySem.W.looks_findIn I.kIn iC) (fun self => PySem.W.bind_fn I.kIn self tI) few
    (codeAny_mono (F.run _ X.stack _ _ ⟨Value.ref (h0.objs.size + 1) :: us, []⟩ (Value.ref (h0.objs.size + 1) :: (us ++ ds)) _ _ (fun _ _ _ => False) (hr.make C us []) (J.env0.make C us []) (hb _ (Value.ref (h0.objs.size + 1) :: us) J.kIn len) rr z) fun w s' y => ?_))
  match w, y with
  | .error er, y => exact hx pins σ _ _ er s' J y
  | .ok (.ret u), y =>
    obtain ⟨v, H2, K2, rv, ev, y2⟩ := J.after y
    subst ev
    exact ⟨rv, .ref (h0.objs.size + 1), H2, K2, rfl, y2⟩
/-- C(e, ..) as a value -/
def tErr (C : Addr) (sp : Sp) (dvs : List V) (ta : TA) : TE := fun σ H Q => ta σ H fun vs H1 => vs.length ≤ 1000 ∧ ∀ a, H1 a = none → sp (.ref a :: (vs ++ dvs)) (upd H1 a (exo a C none)) (fun v H2 => v = .non ∧ Q (.ref a) H2) (fun _ _ _ => False)
theorem pe_err (T : OexC X.K C) (iC : PySem.W.findIn X.K (.ref C) "__init__" = some (some (.ref fI))) (tI : PySem.W.typeIn X.K (.ref fI) = some (.type "function"))
    (F : FnOk X.prog X.w X.K X.mg X.base CX k fI fd ps sp) (hr : Room (k + 1) X.A) (hb : Binds X.K fd ps ds) (hd : Vals dvs ds) (hx : Passes CX X (fun _ _ _ => False)) (hg : Gl X x) (hm : X.mg x = some (.ref C)) (ha : PA X (e :: es) ta)
    (nd : (x == ("__debug__" : Str)) = false := by decide) (st : starEach (e :: es) X.env = (false, eval e X.env) :: starEach es X.env := by rfl) (pl : (backTo pos (starEach es X.env)).any (·.1) = false := by rfl) :
    PE X (.Call (.Name x p) (e :: es) [] pos) (tErr C sp dvs ta) := by
  refine ⟨fun pins s σ H Q I h => ?_⟩
  refine wpAny_Call_Name_kw (ld_glob I hg hm ?_ nd)
  exact PySem.W.callWith_K (h₀ := X.base) I.ok.mod.kin T.kC (thn (ha.run pos pins s σ H _ I h) fun us s1 ⟨vs, H1, I1, r1, hz, q1⟩ => ⟨I1.kIn, run_err T iC tI F hr hb hd hx I1 r1 hz q1⟩) st pl
theorem pe_err0 (T : OexC X.K C) (iC : PySem.W.findIn X.K (.ref C) "__init__" = some (some (.ref fI))) (tI : PySem.W.typeIn X.K (.ref fI) = some (.type "function"))
    (F : FnOk X.prog X.w X.K X.mg X.base CX k fI fd ps sp) (hr : Room (k + 1) X.A) (hb : Binds X.K fd ps ds) (hd : Vals dvs ds) (hx : Passes CX X (fun _ _ _ => False)) (hg : Gl X x) (hm : X.mg x = some (.ref C))
    (nd : (x == ("__debug__" : Str)) = false := by decide) : PE X (.Call (.Name x p) [] [] pos) (tErr C sp dvs tNil) := by
  refine ⟨fun pins s σ H Q I h => ?_⟩
  refine wpAny_Call_Name_kw (ld_glob I hg hm ?_ nd)
  exact PySem.W.callWith_K0 I.kIn T.kC (run_err (us := []) T iC tI F hr hb hd hx I .nil h.1 h.2)
/-- CE.__init__(self, ..), CE a class over ValueError without one of its own -/
theorem pe_ceinit {pl : Sem Bool} (hg : Gl X x) (hm : X.mg x = some (.ref CE)) (R : ClX.CRead X.K CE mc) (vV : PySem.W.findCls X.K (.ref CE) mc "__init__" = some (.val (.builtin "ValueError.__init__"))) (ha : PA X (e :: es) ta)
    (nd : (x == ("__debug__" : Str)) = false := by decide)
    (hc : eval (.Call (.Attribute (.Name x p1) "__init__" p2) (e :: es) [] pos) X.env = (do
      let c ← eval (.Name x p1) X.env
      standAt p2.atName
      let (g, one) ← holding [c] (getMethod c "__init__" pl)
      callWith pos g one (backTo pos (starEach (e :: es) X.env)) (backToKw pos (keywordEach [] X.env))) := by rfl)
    (st : starEach (e :: es) X.env = (false, eval e X.env) :: starEach es X.env := by rfl) (np : (backTo pos (starEach es X.env)).any (·.1) = false := by rfl) :
    PE X (.Call (.Attribute (.Name x p1) "__init__" p2) (e :: es) [] pos) (tVeI X.K ta) := by
  refine ⟨fun pins s σ H Q I h => ?_⟩
  refine PySem.W.methodCall_KW (ld_glob I hg hm ?_ nd) hc
  refine PySem.W.method_cls I.kIn R.ga (PySem.W.cls_value I.kIn R.rd vV (by decide +kernel) ?_)
  refine PyProof.Rows.callWith_method1 (e := e) (rest := es) (thn (ha.run pos pins _ σ H _ (I.tok _) h) fun us s1 ⟨vs, H1, I1, rv, a, D, ws, ev, few, T, there, q⟩ => ?_) st np
  subst ev
  cases rv with
  | cons ru rr =>
    cases ru
    have := Paired.length rr
    exact oinit_ok T I1 there (by rw [sizeLine_eq]; omega) fun s2 J => ⟨.non, H1, J, rfl, q⟩
end
/-! ### kept errors: their fields, their classes -/
/-- at a: an error of the class cls, its dict d -/
def errV (a : Addr) (cls : Value) (d : Option Addr) : HO := .ext fun h => ∃ oe, h.get? a = some oe ∧ Zc cls d oe ∧ ∃ vs, oe.data = .fields vs
/-- the error at a is of the class D and has these fields -/
def ErrK (H : Hp) (a D : Addr) (fs : List (Str × V)) : Prop := ∃ d, (H a = some (exo a D d) ∨ H a = some (errV a (.ref D) d)) ∧ ((d = none ∧ fs = []) ∨ ∃ dx, d = some dx ∧ (H dx = some (exd dx fs) ∨ H dx = some (.xd fs)))
theorem ErrK.mono {H H' : Hp} {a D : Addr} {fs : List (Str × V)} (h : ErrK H a D fs) (s : Same H H') : ErrK H' a D fs := by
  obtain ⟨d, h1, h2⟩ := h
  refine ⟨d, h1.imp (s _ _) (s _ _), h2.imp id fun ⟨dx, e, h3⟩ => ⟨dx, e, h3.imp (s _ _) (s _ _)⟩⟩
section
variable {X : Cx} {pins : List (Addr × Obj)} {σ : L2.St} {H : Hp} {s : Shared} {a D : Addr} {fs : List (Str × V)}
theorem ErrK.inst (I : Inv X pins σ H s) (h : ErrK H a D fs) : ∃ ox od, PySem.W.InstAt s.heap a ox D od ∧ ∀ f, ∀ v, fs.lookup f = some v → ∃ o u, od = some o ∧ PySem.W.lookIn f o = some (some u) ∧ RelV v u := by
  obtain ⟨d, h1, h2⟩ := h
  obtain ⟨oe, e, z1, z2, vs, z3⟩ : ∃ oe, s.heap.get? a = some oe ∧ oe.cls = .ref D ∧ oe.dict = d ∧ ∃ vs, oe.data = .fields vs := by
    rcases h1 with h | h
    · obtain ⟨t, e⟩ := exo_at I.hok h
      exact ⟨_, e, rfl, rfl, _, rfl⟩
    · obtain ⟨⟨oe, e, z, f⟩, _⟩ := I.hok a _ h
      exact ⟨oe, e, z.1, z.2, f⟩
  obtain ⟨oc, od, oda, osl⟩ := oe
  dsimp only at z1 z2 z3
  subst z1 z2 z3
  rcases h2 with ⟨rfl, rfl⟩ | ⟨dx, rfl, h⟩
  · exact ⟨_, none, ⟨e, rfl, rfl, trivial⟩, fun f v z => nomatch z⟩
  · obtain ⟨mA, ns, rel⟩ : ∃ mA, s.heap.Ns1 dx mA ∧ ∀ f, RelO (fs.lookup f) (mA f) := by
      rcases h with h | h
      · exact exd_at I.hok h
      · exact I.hok dx _ h
    obtain ⟨o, ho, hl⟩ := lookIn_ns ns
    refine ⟨_, some o, ⟨e, rfl, rfl, ho⟩, fun f v z => ?_⟩
    obtain ⟨u, hu, ru⟩ := RelO.some_of (v := v) (o := mA f) (by rw [← z]; exact rel f)
    exact ⟨o, u, rfl, by rw [hl, hu], ru⟩
/-- isinstance of a kept error -/
def rErrIs (K : PySem.W.Frag) : List V → Hp → VK → Prop := fun xs H Q => ∃ (a D : Addr) (fs : List (Str × V)) (c : V) (u : Value) (b : Bool), xs = [.ref a, c] ∧ ErrK H a D fs ∧ ExcC K D ∧ ClsV c u ∧ PySem.W.kitOne K (.ref D) u = some b ∧ Q (.bl b) H
theorem call_isErr : CallR X (.builtin "isinstance") (rErrIs X.K) := by
  intro pins s σ H xs us Q I r h
  obtain ⟨a, D, fs, c, u, b, rfl, he, C, cv, kit, q⟩ := h
  obtain ⟨ox, od, J, _⟩ := he.inst I
  cases r with
  | cons rx rr =>
    cases rr with
    | cons rt rr =>
      cases rr
      cases rx
      have ec := cv.eq rt
      subst ec
      have hc : (PySem.W.clsIn X.K D).isSome = true := by
        obtain ⟨cd, e, _⟩ := PySem.W.any_some C.hd
        rw [e]
        rfl
      exact PySem.W.kia_one (PySem.W.kitx_exc hc C.hg C.hk C.hs C.ha C.hn C.ht C.hm) I.kIn J kit (fun z => nomatch z) fun tk => ⟨.bl b, H, I.kept (t' := tk) fun _ _ z => z, rfl, q⟩
/-- e.f, e a kept error -/
def tErrF (K : PySem.W.Frag) (te : TE) (f : Str) : TE := fun σ H Q => te σ H fun x H1 => ∃ (a D : Addr) (fs : List (Str × V)) (v : V), x = .ref a ∧ ErrK H1 a D fs ∧ XfC K D ∧ PySem.W.findIn K (.ref D) f = some none ∧ fs.lookup f = some v ∧ Q v H1
theorem pe_errF {e : Expr} {te : TE} {f : Str} {pos : Pos} (he : PE X e te) (hb : attributeBase e f X.env (eval e X.env) = eval e X.env := by rfl) : PE X (.Attribute e f pos) (tErrF X.K te f) := by
  refine ⟨fun pins s σ H Q I h => ?_⟩
  refine attr_of hb (thn (he.run pins s σ H _ I h) fun w s1 ⟨x, H1, I1, rx, a, D, fs, v, ex, hk, T, no, l, q⟩ => ?_)
  subst ex
  cases rx
  obtain ⟨ox, od, J, lk⟩ := hk.inst I1
  obtain ⟨o, u, eo, hl, ru⟩ := lk f v l
  subst eo
  exact HandSPX.exc_get I1.kIn J T.ga T.gg T.exC (PySem.W.findObj_own T.hdC no rfl (by rw [hl])) (handed_of ru) ⟨v, H1, I1.tok _, ru, q⟩
end
end CP

set_option Elab.async false
set_option linter.all false
set_option maxRecDepth 100000
set_option maxHeartbeats 4000000
set_option autoImplicit false
/-! a caught error that is kept behind the except suite -/
namespace CP
open L2 PySem PyProof.Rows
section
variable {X : Cx} {pins : List (Addr × Obj)} {σ : L2.St} {H : Hp} {s : Shared} {a : Addr} {oe : Obj} {cls : Value} {d : Option Addr}
theorem errV_ok {P : Program} {w : World} {h : Heap} (e : h.get? a = some oe) (z : Zc cls d oe) (f : ∃ vs, oe.data = .fields vs) : ObjOk P w H h a (errV a cls d) :=
  ⟨⟨oe, e, z, f⟩, ⟨oe, e⟩, fun h1 h2 ⟨o, e1, r⟩ k => ⟨o, k o e1, r⟩⟩
/-- a pinned error that is newer than the frame is tracked -/
theorem keep_ok (I : Inv X ((a, oe) :: pins) σ H s) (new : X.s_0.heap.get? a = none) (z : Zc cls d oe) (f : ∃ vs, oe.data = .fields vs) (np : ∀ p ∈ X.pn ++ pins, p.1 ≠ a) : Inv X pins σ (upd H a (errV a cls d)) s := by
  obtain ⟨there, na, nL, nF, nc⟩ := I.pin (a, oe) (List.mem_append_right _ List.mem_cons_self)
  have there : s.heap.get? a = some oe := there
  have na : H a = none := na
  have nL : a ≠ X.env.locals := nL
  refine ⟨I.ok, I.os, I.bare, ⟨I.base.keep, I.base.slot, fun b o e n hx => ?_, I.base.there, fun b xs e => ?_, fun b o u e => ?_, fun b ps e => ?_⟩, I.loc, I.cell, ?_, fun x c e => ?_, fun p hp => ?_, I.hok.laidN (fun _ _ e => e) na (errV_ok there z f), I.len⟩
  · rw [upd_ne (fun k => by rw [k, new] at e; cases e)]
    exact I.base.free b o e n hx
  · have y := I.base.tups b xs e
    rw [upd_ne (ne_of_none y na)]
    exact y
  · have y := I.base.frzs b o u e
    rw [upd_ne (ne_of_none y na)]
    exact y
  · obtain ⟨more, y⟩ := I.base.tbls b ps e
    exact ⟨more, by rw [upd_ne (ne_of_none y na)]; exact y⟩
  · rw [upd_ne (Ne.symm nL)]
    exact I.free
  · rw [upd_ne (fun k => ?_)]
    · exact I.freeC x c e
    · obtain ⟨v, hv⟩ := I.cell x c e
      rw [k] at hv
      obtain ⟨vs, hd⟩ := f
      obtain ⟨o, ho, hc⟩ := hv
      rw [there] at ho
      cases ho
      rw [hd] at hc
      cases hc
  · have hp' : p ∈ X.pn ++ ((a, oe) :: pins) := by
      rcases List.mem_append.mp hp with k | k
      · exact List.mem_append_left _ k
      · exact List.mem_append_right _ (List.mem_cons_of_mem _ k)
    obtain ⟨h1, h2, h3⟩ := I.pin p hp'
    exact ⟨h1, by rw [upd_ne (np p hp)]; exact h2, h3⟩
end
/-- what follows, the error kept -/
def keepD (D : Ends) (i : Nat) (a : Addr) (cls : Value) (d : Option Addr) : Ends where
  nx := fun τ G => D.nx (τ.set i none) (upd G a (errV a cls d))
  rt := fun v G => D.rt v (upd G a (errV a cls d))
  bk := fun τ G => D.bk (τ.set i none) (upd G a (errV a cls d))
  ct := fun τ G => D.ct (τ.set i none) (upd G a (errV a cls d))
def wKeep (K : PySem.W.Frag) (c : Value) (i : Nat) (ts : Addr → Value → Option Addr → TS) (W0 : WX) (D : Ends) : WX := fun cls d τ G =>
  ∃ b, PySem.W.exmOne K cls c = some b ∧ (b = true → ∀ a, G a = none → ts a cls d (keepD D i a cls d) (τ.set i (some (.ref a))) G) ∧ (b = false → W0 cls d τ G)
section
variable {X : Cx} {x n : Str} {c : Value} {i : Nat} {body suite : List Stmt} {b0 : Stmt} {p1 p2 pos : Pos} {tb : WX → TS} {ts : Addr → Value → Option Addr → TS} {W0 : WX}
/-- try: body / except x as n: suite; behind it the error is tracked -/
theorem ps_try_keep (st : X.stack = X.env :: X.outer) (fr : X.env.frame = some X.env.locals) (nd : X.N.Nodup) (hi : X.N[i]? = some n) (ln : X.env.kindOf n = some .local) (hc : Names X x c) (hx : X.ex = []) (out : Takes X W0)
    (hb : ∀ (W : WX) (pn : List (Addr × Obj)) (xe : Value → Shared → Prop), Takes (X.tr pn xe) W → PassesOwn (model X.prog X.w) X.A X.env xe → PSs (X.tr pn xe) body (tb W))
    (hsu : ∀ (a : Addr) (oe : Obj) (cls : Value) (d : Option Addr) (pn : List (Addr × Obj)), Zc cls d oe → (∃ vs, oe.data = .fields vs) → PSs (X.suite a ((a, oe) :: pn)) (b0 :: suite) (ts a cls d)) :
    PS X (.Try body [.ExceptHandler (some (.Name x p1)) (some n) (b0 :: suite) p2] [] [] pos) (fun D τ G => tb (wKeep X.K c i ts W0 D) D τ G) := by
  refine ⟨fun pins s σ H D I h => ?_⟩
  have ok := I.ok
  have frs2 : X.A.frames = some (X.env :: X.outer) := ok.frames.trans (by rw [st])
  refine wpAny_Try_except ?_
  let M := model X.prog X.w
  let late : Value → Shared → Prop := fun u t1 => wpAny M X.A (noteFrame u X.env) (fun _ t2 => wpAny M X.A (setFlight u none)
    (fun _ t3 => wpAny M X.A (handleBy u X.env [.ExceptHandler (some (.Name x p1)) (some n) (b0 :: suite) p2]) (SP X pins D) X.xe t3) X.xe t2) X.xe t1
  refine wpAny_mono ((hb (wKeep X.K c i ts W0 D) (X.pn ++ pins) late (fun u s' xx => ?kaught) PassesOwn.looking).run [] s σ H D (I.toTry _) h) (fun f s1 q => ?done) (fun e s1 he => he)
  case done =>
    match f, q with
    | .next, ⟨σ1, H1, J, q⟩ => exact wpAny_execs_nil ⟨σ1, H1, J.ofTry ok, q⟩
    | .brk, ⟨σ1, H1, J, q⟩ => exact ⟨σ1, H1, J.ofTry ok, q⟩
    | .cont, ⟨σ1, H1, J, q⟩ => exact ⟨σ1, H1, J.ofTry ok, q⟩
    | .ret u, ⟨v, σ1, H1, J, r, q⟩ => exact ⟨v, σ1, H1, J.ofTry ok, r, q⟩
  case kaught =>
    obtain ⟨a, B, t0, old, τ, G, cls, d, rfl, J0, nb, up, sky, na, os, ag, b, yes, keep, pass⟩ := xx
    have J : Inv X pins τ G t0 := J0.ofTry ok
    have sky1 : Sky B (X.env :: X.outer) a (Zc cls d) X.env.locals s'.heap := st ▸ sky
    show wpAny (model X.prog X.w) X.A (noteFrame (.ref a) X.env) _ _ _
    refine Sky.land Zc.steady frs2 fr sky1 fun g1 fly up1 => ?_
    have K1 : Inv X pins τ G { s' with heap := g1 } := J.landed nb fly.1 (up.trans up1) os ag
    obtain ⟨o1, vs1, e1, z1, f1⟩ := fly.there
    have out_ : ∀ {g : Heap} {o : Obj} {vs : Array Value}, g.FunFrames B (X.env :: X.outer) → g.get? a = some o → o.data = .fields vs → a ∉ frs (X.env :: X.outer) := fun {g o vs} ff ea da m => by
      obtain ⟨_, o2, e2, no⟩ := ff.mem m
      rw [ea] at e2
      cases e2
      exact no _ da
    have no := out_ fly.2.2.1 e1 f1
    have nL : a ≠ X.env.locals := fun k => no (List.mem_filterMap.mpr ⟨X.env, List.mem_cons_self, fr.trans (by rw [k])⟩)
    have nF : a ∉ X.fs := fun m => by
      obtain ⟨v, hv, q⟩ := List.mem_filterMap.mp m
      exact no (List.mem_filterMap.mpr ⟨v, List.mem_cons_of_mem _ hv, q⟩)
    have nt : t0.heap.get? a = none := by
      cases k : t0.heap.get? a with
      | none => rfl
      | some o =>
        have k2 := nb a o k (by rw [st]; exact no)
        rw [fly.2.1] at k2
        cases k2
    have new : X.s_0.heap.get? a = none := by
      cases k : X.s_0.heap.get? a with
      | none => rfl
      | some o =>
        obtain ⟨o2, k2⟩ := J.base.there a o k (by rw [hx]; simp)
        rw [nt] at k2
        cases k2
    have np : ∀ p ∈ X.pn ++ pins, p.1 ≠ a := fun p hp k => by
      have := (J.pin p hp).1
      rw [k, nt] at this
      cases this
    have S1 := K1.suite e1 f1 na nL nF
    refine wpAny_handleBy_cons (codeAny_handlers_test ?_) (fun q => nomatch q)
    have ty : PySem.W.Looks M g1 (typeOf (.ref a)) cls := fun A' Q' E' s2 k q => wpAny_typeOf_ref (k _ _ e1) (by rw [z1.1]; exact q)
    have is := PySem.W.exm_one (M := M) K1.kIn ty yes
    have named : ∀ {Q' : Value → Shared → Prop} {E' : Value → Shared → Prop}, Q' c { s' with heap := g1 } → wpAny M (X.A.mark (some (.ref a))) (eval (.Name x p1) X.env) Q' E' { s' with heap := g1 } := fun {Q' E'} q => by
      obtain ⟨hg, hdb, hm | ⟨hm, hv, hnn⟩⟩ := hc
      · exact ld_glob (X := X.suite a ((a, o1) :: (X.pn ++ pins))) S1 hg hm q hdb
      · exact ld_blt (X := X.suite a ((a, o1) :: (X.pn ++ pins))) S1 hg hm hv q hnn hdb
    refine named (is.here ?_)
    cases b with
    | true =>
      refine codeAny_handlers_suite_as ?_
      refine HandSPX.lands_againZ fly fun g2 fly2 up2 => ?_
      have K2 : Inv X pins τ G { s' with heap := g2 } := J.landed nb fly2.1 ((up.trans up1).trans up2) os ag
      obtain ⟨o2, vs2, e2, z2, f2⟩ := fly2.there
      have S2 := K2.suite e2 f2 na nL nF
      refine store_ok (X := X.suite a ((a, o2) :: (X.pn ++ pins))) (v := .ref a) S2 nd hi (.inl ln) rfl (fun s3 S3 => ?_) (.inr ln)
      refine wpAny_mono ((hsu a o2 cls d (X.pn ++ pins) z2 ⟨_, f2⟩).run [] s3 _ G _ S3 (keep rfl a na)) (fun f s4 q => ?_) (fun _ _ z => z.elim)
      have last : ∀ {τ4 : L2.St} {G4 : Hp} {Q : Shared → Prop}, Inv (X.suite a ((a, o2) :: (X.pn ++ pins))) [] τ4 G4 s4 → (∀ s5, Inv X pins (τ4.set i none) (upd G4 a (errV a cls d)) s5 → Q s5) →
          wpAny M X.A (do bindName X.env n .none; unbindBehindTheSuite X.env n p2) (fun _ s5 => Q s5) X.xe s4 := fun {τ4 G4 Q} S4 q => by
        have P4 : Inv X ((a, o2) :: pins) τ4 G4 s4 := ⟨ok, S4.os, S4.bare, S4.base, S4.loc, S4.cell, S4.free, S4.freeC, fun p hp => S4.pin p (by
          rcases List.mem_append.mp hp with k | k
          · exact List.mem_append_left _ (List.mem_cons_of_mem _ (List.mem_append_left _ k))
          · rcases List.mem_cons.mp k with k | k
            · rw [k]; exact List.mem_append_left _ List.mem_cons_self
            · exact List.mem_append_left _ (List.mem_cons_of_mem _ (List.mem_append_right _ k))), S4.hok, S4.len⟩
        exact gone_ok P4 nd hi ln fun s5 P5 => q s5 (keep_ok P5 new z2 ⟨_, f2⟩ np)
      match f, q with
      | .next, ⟨τ4, G4, S4, q⟩ => exact last S4 fun s5 J5 => ⟨_, _, J5, q⟩
      | .brk, ⟨τ4, G4, S4, q⟩ => exact last S4 fun s5 J5 => ⟨_, _, J5, q⟩
      | .cont, ⟨τ4, G4, S4, q⟩ => exact last S4 fun s5 J5 => ⟨_, _, J5, q⟩
      | .ret u, ⟨v4, τ4, G4, S4, r4, q⟩ => exact last S4 fun s5 J5 => ⟨v4, _, _, J5, r4, q⟩
    | false =>
      show wpAny _ X.A (handleBy (.ref a) X.env []) _ _ _
      refine wpAny_handleBy_nil ?_
      obtain ⟨_, _, _, o3, vs3, T3, oT, ts3, e3, z3, f3, h3, r3⟩ := id fly
      unfold PySem.passOn
      refine wpAny_bind (wpAny_field e3 f3 h3 ?_)
      rw [if_neg (show ¬ ((Value.ref T3 == Value.none) = true) from by simp)]
      have on : wpAny M X.A (setFlight (.ref a) X.env.frame) (fun _ s4 => wpAny M X.A (throw (.ref a) : Sem Flow) (SP X pins D) X.xe s4) X.xe { s' with heap := g1 } := by
        rw [fr]
        refine HandSPX.setFlight_upZ fly fun g4 held up4 => wpAny_throw (out _ _ ?_)
        exact ⟨a, B, t0, pins, τ, G, cls, d, rfl, J, nb, (up.trans up1).trans up4, .inr (.inr (st.symm ▸ held)), na, os, ag, pass rfl⟩
      first
        | exact wpAny_bind (wpAny_pure (wpAny_bind on))
        | exact wpAny_bind on
end
end CP

set_option Elab.async false
set_option linter.all false
set_option maxRecDepth 100000
set_option maxHeartbeats 4000000
set_option autoImplicit false
/-! an error of an own class made by keywords -/
namespace EW
open PySem PySem.Spec PyProof.Rows PySem.HandSPX
section
variable {M : Model} {A : Around} {E : Value → Shared → Prop} {h : Heap} {g : Array GenState} {d : Drawn} {t : Nat} {os : OsState}
  {nm q : Str} {C N : Addr} {bs bm bmB : List Value} {hdct : Bool} {sn : List Str} {sub : List Value} {ab : Bool} {col : Option Bool} {dd : Option Addr} {k0 k1 k2 k3 k5 : Option Value} {B newId initId : String}
theorem check_kw (F : ExcBaseFacts B newId initId bmB) (same : ∀ X : String, bm.contains (.type X) = bmB.contains (.type X)) {kw : List (Str × Value)} {Q : Unit → Shared → Prop}
    (cls : h.get? C = some (excClassObj nm q C N bs bm hdct sn sub ab col dd k0 k1 k2 k3 k5 newId)) (done : Q () ⟨h, g, d, t, os⟩) : wpAny M A (checkBuiltinCall newId ⟨[.ref C], kw⟩) Q E ⟨h, g, d, t, os⟩ := by
  have above : (Value.ref C :: bm).contains (.type B) = true := by
    rw [List.contains_cons, same, F.hasB]
    exact Bool.or_true _
  have star := F.noStar
  simp only [checkBuiltinCall, F.newKind, F.newSplit, F.newRow]
  repeat (first
    | refine wpAny_loadPart_at cls ?_
    | (refine wpAny_isSubtype_exc cls ?_; rw [above])
    | refine wpAny_staticBase_exc cls ?_
    | refine wpAny_madeBy_exc cls ?_
    | simp only [bne_self_eq_false, Bool.false_eq_true, if_false]
    | wp_step)
  exact done
end
section
variable {prog : Program} {w : World} {A : Around} {E : Value → Shared → Prop} {R : Result → Shared → Prop} {h : Heap} {g : Array GenState} {d : Drawn} {t : Nat} {os : OsState}
  {nm q : Str} {C N : Addr} {bs bm bmB : List Value} {hdct : Bool} {sn : List Str} {sub : List Value} {ab : Bool} {col : Option Bool} {dd : Option Addr} {k0 k1 k2 k3 k5 : Option Value} {B newId initId : String}
theorem new_kw (F : ExcBaseFacts B newId initId bmB) (same : ∀ X : String, bm.contains (.type X) = bmB.contains (.type X)) {kw : List (Str × Value)}
    (cls : h.get? C = some (excClassObj nm q C N bs bm hdct sn sub ab col dd k0 k1 k2 k3 k5 newId))
    (done : R (.ok (.ret (.ref (h.objs.size + 1)))) ⟨(h.push (W.kdv_tup [])).push (excO C h.objs.size), g, d, t, os⟩) :
    codeAny (model prog w) A (.builtin newId ⟨[.ref C], kw⟩) R ⟨h, g, d, t, os⟩ := by
  have ends := F.ends
  have up : ∀ X : String, (Value.ref C :: bm).contains (.type X) = bmB.contains (.type X) := fun X => by
    rw [List.contains_cons, same]
    rfl
  have aB : (Value.ref C :: bm).contains (.type B) = true := (up B).trans F.hasB
  have aA : (Value.ref C :: bm).contains (.type "AttributeError") = false := (up _).trans F.noAttr
  have aN : (Value.ref C :: bm).contains (.type "NameError") = false := (up _).trans F.noName
  refine PySem.codeAny_builtinAt F.entry ?_
  unfold Builtin.«BaseException.__new__»
  refine PySem.wpAt_bind ?_
  show PySem.wpAt _ _ _ (stack >>= _) _ _ _
  refine PySem.wpAt_bind (PySem.wpAt_stack fun _ _ => PySem.wpAt_of_wpAny ?_)
  wp_walk
  refine PySem.wpAt_of_wpAny ?_
  rw [F.owner]
  repeat (first
    | with_reducible refine wpAny_madeHere_exc F.canon cls ?_
    | with_reducible refine wpAny_loadPart_at cls ?_
    | (with_reducible refine wpAny_isSubtype_exc cls ?_
       first | rw [aB] | rw [aA] | rw [aN])
    | wp_step)
  show R _ _
  rw [Heap.size_push]
  exact done
theorem type_call_kw (F : ExcBaseFacts B newId initId bmB) (same : ∀ X : String, bm.contains (.type X) = bmB.contains (.type X)) {kw : List (Str × Value)} {f : Addr} {Q : Fin → Shared → Prop}
    (cls : h.get? C = some (excClassObj nm q C N bs bm hdct sn sub ab col dd k0 k1 k2 k3 k5 newId))
    (ini : W.Looks (model prog w) h (typeLookup (.ref C) "__init__") (some (.ref f))) (bnd : ∀ self, W.Looks (model prog w) h (bindSpecial (.ref f) self) (.ref f, [self]))
    (run : codeAny (model prog w) A (.call (.ref f) ⟨[.ref (h.objs.size + 1)], kw⟩) (fun r s' => match r with
      | .ok (.ret v) => v = .none ∧ Q (.done (.ret (.ref (h.objs.size + 1)))) s'
      | .ok _ => False
      | .error e => E e s') ⟨(h.push (W.kdv_tup [])).push (excO C h.objs.size), g, d, t, os⟩) :
    wpAny (model prog w) A (Builtin.«type.__call__» ⟨[.ref C], kw⟩) Q E ⟨h, g, d, t, os⟩ := by
  repeat (first
    | with_reducible refine wpAny_loadPart_at cls ?_
    | with_reducible refine wpAny_madeBy_exc cls ?_
    | wp_step)
  refine codeAny_call_builtin_code (Code.quiet_builtin _ F.quiet) (check_kw F same cls ?_)
  refine new_kw F same cls ?_
  show wpAny _ _ _ _ _ _
  have kept : ∀ b o, h.get? b = some o → ((h.push (W.kdv_tup [])).push (excO C h.objs.size)).get? b = some o := fun b o z =>
    Heap.get?_push_of_some _ (Heap.get?_push_of_some _ z)
  have cls1 := kept _ _ cls
  have made : ((h.push (W.kdv_tup [])).push (excO C h.objs.size)).get? (h.objs.size + 1) = some (excO C h.objs.size) := by heap_get
  have self : (Value.ref C :: bm).contains (.ref C) = true := by simp
  unfold isInstance
  repeat (first
    | with_reducible refine wpAny_loadPart_at made ?_
    | (with_reducible refine wpAny_isSubtype_exc cls1 ?_
       rw [self])
    | wp_step)
  show wpAny _ _ (typeLookup (.ref C) _) _ _ _
  refine (ini.keeps kept).at ?_
  refine wpAny_holding (wpAny_bind (((bnd (.ref (h.objs.size + 1))).keeps kept).at ?_))
  refine wpAny_bind (wpAny_call (codeAny_mono run fun r s' z => ?_))
  match r, z with
  | .error e, z => exact z
  | .ok (.ret v), ⟨ev, z⟩ =>
    subst ev
    first
      | exact wpAny_pure (wpAny_pure z)
      | (wp_walk; exact z)
theorem call_kw (F : ExcBaseFacts B newId initId bmB) (same : ∀ X : String, bm.contains (.type X) = bmB.contains (.type X)) {kw : List (Str × Value)} {f : Addr}
    (cls : h.get? C = some (excClassObj nm q C N bs bm hdct sn sub ab col dd k0 k1 k2 k3 k5 newId))
    (ini : W.Looks (model prog w) h (typeLookup (.ref C) "__init__") (some (.ref f))) (bnd : ∀ self, W.Looks (model prog w) h (bindSpecial (.ref f) self) (.ref f, [self]))
    (run : codeAny (model prog w) (A.under (.builtin "type.__call__" ⟨[.ref C], kw⟩)) (.call (.ref f) ⟨[.ref (h.objs.size + 1)], kw⟩) (W.InitBack (h.objs.size + 1) R) ⟨(h.push (W.kdv_tup [])).push (excO C h.objs.size), g, d, t, os⟩) :
    codeAny (model prog w) A (.call (.ref C) ⟨[], kw⟩) R ⟨h, g, d, t, os⟩ := by
  have l1 := tc_lookup
  have l2 := tc_bind (.ref C)
  have isT : (⟨h, g, d, t, os⟩ : Shared).TypeIs (.ref C) "type" := ⟨_, cls, rfl⟩
  refine codeAny_of_tree ?_
  show wpAny _ _ (callAny (.ref C) _) _ _ _
  repeat (any_goals (first
    | assumption
    | with_reducible refine wpAny_loadPart_at cls ?_
    | wp_step))
  refine ⟨rfl, ?_⟩
  refine codeAny_call_builtin_at (Code.quiet_builtin _ (by decide +kernel)) entry_typeCall (wpAny_check_type_call_sub cls (type_call_kw F same cls ini bnd ?_))
  refine codeAny_mono run fun r s' z => ?_
  match r, z with
  | .error e, z => exact z
  | .ok (.ret v), z => exact z
end
end EW
namespace CP
open L2 PySem PyProof.Rows
section
variable {X : Cx} {CX : CXT} {C fI : Addr} {k : Nat} {fd : FuncData} {ps ks : List Str} {sp : Sp} {x : Str} {kws : List Keyword} {tk : TA} {p pos : Pos} {gN : List Value → List Value → List Value} {gV : List V → List V → List V}
/-- C(f = e) as a value -/
def tErrK (C : Addr) (m : Nat) (sp : Sp) (gV : List V → List V → List V) (tk : TA) : TE := fun σ H Q => tk σ H fun zs H1 => zs.length = m ∧ ∀ a, H1 a = none → sp (gV [.ref a] zs) (upd H1 a (exo a C none)) (fun v H2 => v = .non ∧ Q (.ref a) H2) (fun _ _ _ => False)
theorem run_errK {pins : List (Addr × Obj)} {σ : L2.St} {H : Hp} {s : Shared} {ws : List Value} {zs : List V} {Q : VK} (T : OexC X.K C)
    (iC : PySem.W.findIn X.K (.ref C) "__init__" = some (some (.ref fI))) (tI : PySem.W.typeIn X.K (.ref fI) = some (.type "function"))
    (F : FnOk X.prog X.w X.K X.mg X.base CX k fI fd ps sp) (hr : Room (k + 1) X.A) (hb : KBn X.K fd ps 1 ks gN gV) (hx : Passes CX X (fun _ _ _ => False))
    (I : Inv X pins σ H s) (r : Vals zs ws) (lz : zs.length = ks.length)
    (q : ∀ a, H a = none → sp (gV [.ref a] zs) (upd H a (exo a C none)) (fun v H2 => v = .non ∧ Q (.ref a) H2) (fun _ _ _ => False)) :
    wpAny (model X.prog X.w) X.A (call (.ref C) [] (ks.zip ws)) (EP X pins σ Q) X.xe s := by
  obtain ⟨nm, qn, N, bs, bm, sn, sub, ab, col, dd, k0, k1, k2, k3, k5, hC, hbm⟩ := T.cls
  obtain ⟨h0, g0, d0, t0, o0⟩ := s
  have le : h0.objs.size ≤ h0.objs.size + 1 := Nat.le_succ _
  have free : H (h0.objs.size + 1) = none := I.hok.fresh le
  have z := q _ free
  have keep : ∀ b o, h0.get? b = some o → ((h0.push (PySem.W.kdv_tup [])).push (PySem.HandSPX.excO C h0.objs.size)).get? b = some o :=
    fun b o eb => Heap.get?_push_of_some _ (Heap.get?_push_of_some _ eb)
  have there : ((h0.push (PySem.W.kdv_tup [])).push (PySem.HandSPX.excO C h0.objs.size)).get? (h0.objs.size + 1) = some (PySem.HandSPX.excO C h0.objs.size) := by heap_get
  have J : Inv X pins σ (upd H (h0.objs.size + 1) (exo (h0.objs.size + 1) C none)) ⟨(h0.push (PySem.W.kdv_tup [])).push (PySem.HandSPX.excO C h0.objs.size), g0, d0, t0, o0⟩ :=
    I.laid (t' := t0) (h' := (h0.push (PySem.W.kdv_tup [])).push (PySem.HandSPX.excO C h0.objs.size)) (o := exo (h0.objs.size + 1) C none) (a := h0.objs.size + 1) keep le (exo_ok there)
  have rr := hb.rel (.cons rfl .nil : Vals [V.ref (h0.objs.size + 1)] [Value.ref (h0.objs.size + 1)]) r
  have lw : ws.length = ks.length := r.length.symm.trans lz
  refine wpAny_call (EW.call_kw PySem.F.excBase_ValueError (fun Y => PySem.HandSPX.refsVE_contains Y bm hbm) (I.kIn _ _ hC) (PySem.W.looks_findIn I.kIn iC) (fun self => PySem.W.bind_fn I.kIn self tI)
    (codeAny_mono (F.run _ X.stack _ _ ⟨[Value.ref (h0.objs.size + 1)], ks.zip ws⟩ (gN [Value.ref (h0.objs.size + 1)] ws) _ _ (fun _ _ _ => False) (hr.make C [] (ks.zip ws)) (J.env0.make C [] (ks.zip ws)) (hb.to _ [Value.ref (h0.objs.size + 1)] ws J.kIn rfl lw) rr z) fun w s' y => ?_))
  match w, y with
  | .error er, y => exact hx pins σ _ _ er s' J y
  | .ok (.ret u), y =>
    obtain ⟨v, H2, K2, rv, ev, y2⟩ := J.after y
    subst ev
    exact ⟨rv, .ref (h0.objs.size + 1), H2, K2, rfl, y2⟩
theorem pe_errK (T : OexC X.K C) (iC : PySem.W.findIn X.K (.ref C) "__init__" = some (some (.ref fI))) (tI : PySem.W.typeIn X.K (.ref fI) = some (.type "function"))
    (F : FnOk X.prog X.w X.K X.mg X.base CX k fI fd ps sp) (hr : Room (k + 1) X.A) (hb : KBn X.K fd ps 1 ks gN gV) (hx : Passes CX X (fun _ _ _ => False)) (hg : Gl X x) (hm : X.mg x = some (.ref C)) (hkw : PK X kws tk)
    (all : (backToKw pos (keywordEach kws X.env)).all (·.1.isSome) = true := by rfl) (hks : (backToKw pos (keywordEach kws X.env)).filterMap (·.1) = ks := by rfl) (nd : (x == ("__debug__" : Str)) = false := by decide)
    (pl : ((backTo pos (starEach [] X.env)).any (·.1) || (backToKw pos (keywordEach kws X.env)).any (·.1.isNone)) = false := by rfl) :
    PE X (.Call (.Name x p) [] kws pos) (tErrK C ks.length sp gV tk) := by
  refine ⟨fun pins s σ H Q I h => ?_⟩
  refine wpAny_Call_Name_kw (ld_glob I hg hm ?_ nd)
  refine PySem.W.callWith_KW0 (h₀ := X.base) I.ok.mod.kin T.kC all ?_ pl
  refine thn (hkw.run pos pins s σ H _ I h) fun ws s1 ⟨zs, H1, I1, r, lz, q⟩ => ⟨I1.kIn, ?_⟩
  rw [hks]
  exact run_errK T iC tI F hr hb hx I1 r lz q
/-- C() of an error class without an own __init__, as a value -/
theorem pe_exc0 {bmB : List Value} {B newId initId : String} (F : ExcBaseFacts B newId initId bmB) (q : PySem.W.excIn X.K C bmB newId = true) (gC : X.mg x = some (.ref C)) (kC : PySem.W.keepIn X.K (.ref C) = true) (hg : Gl X x)
    (nd : (x == ("__debug__" : Str)) = false := by decide) : PE X (.Call (.Name x p) [] [] pos) (fun _ H Q => ∀ a, H a = none → Q (.ref a) (upd H a (errV a (.ref C) none))) := by
  refine ⟨fun pins s σ H Q I h => ?_⟩
  refine wpAny_Call_Name_kw (ld_glob I hg gC ?_ nd)
  refine PySem.W.callWith_K0 I.kIn kC ?_
  show wpAny _ _ (call (.ref C) []) _ _ _
  obtain ⟨bm, N, nm, qn, bs, hdct, sn, sub, ab, col, dd, k0, k1, k2, k3, k5, mN, hC, hN, hni, T⟩ := exc_obj I.kIn q
  refine wpAny_call_exc_subT F T hC hN hni (fun h' a hm => ?_) (Nat.zero_le _)
  have na : H a = none := I.hok.gone hm.new
  obtain ⟨t, ht, _, _⟩ := hm.there
  exact ⟨.ref a, _, I.laidN hm.keeps hm.new na (errV_ok ht ⟨rfl, rfl⟩ ⟨_, rfl⟩), rfl, h a na⟩
end
end CP
namespace CP
open L2 PySem PyProof.Rows
/-- what the written part says of an error class with one field and an own __init__ -/
structure ErrCls (K : PySem.W.Frag) (C fI : Addr) (f : Str) : Prop where
  ox : OexC K C
  ini : PySem.W.findIn K (.ref C) "__init__" = some (some (.ref fI))
  fn : PySem.W.typeIn K (.ref fI) = some (.type "function")
  xf : XfC K C
  ec : ExcC K C
  no : PySem.W.findIn K (.ref C) f = some none
/-- positional values, then keywords, nothing left to the defaults -/
theorem FunD.kbn {K : PySem.W.Frag} {x qual : Str} {params : Arguments} {body : List Stmt} {scope : Scope} {dvs : List V} {f : Addr} {fd : FuncData} {ps ks : List Str} {n : Nat} {g : List Value → List Value → List Value} {gV : List V → List V → List V} (F : FunD K x qual params body scope dvs [] f fd) (hd : dvs ≠ [])
    (h : ∀ (T : Addr) (kV doc pm : Value) (an : Option Addr) (cdv ct : Value) (its us ws : List Value), its.length = dvs.length → us.length = n → ws.length = ks.length →
      ∃ k, bindArgs (PySem.W.fnOf x qual params body scope (.ref T) kV doc pm an cdv ct) ⟨us, ks.zip ws⟩ = seqItems? (.ref T) >>= k ∧ k (some its.toArray) = pure (ps.zip (g us ws)))
    (hr : ∀ {vs : List V} {us : List Value} {zs : List V} {ws : List Value}, Vals vs us → Vals zs ws → Vals (gV vs zs) (g us ws)) : KBn K fd ps n ks g gV := by
  obtain ⟨oc, od, dV, kV, doc, pm, an, cdv, ct, osl, rfl, lk, hcd, hD, hK⟩ := F.ex
  rcases hD with ⟨e, _⟩ | ⟨_, T, o, its, m, rfl, lT, oT, rT⟩
  · exact absurd e hd
  · refine ⟨fun s us ws X l1 l2 => ?_, hr⟩
    obtain ⟨k, e1, e2⟩ := h T kV doc pm an cdv ct its us ws rT.length.symm l1 l2
    refine BindsTo.of_looks fun M => ?_
    rw [e1]
    exact looks_items X lT oT (.of_pure e2)
end CP
namespace CP
open L2 PySem PyProof.Rows
def tExc0 (C : Addr) : TE := fun _ H Q => ∀ a, H a = none → Q (.ref a) (upd H a (errV a (.ref C) none))
section
variable {K : PySem.W.Frag} {σ : L2.St} {H : Hp} {Q : VK} {ta tk : TA} {te to : TE} {f : Str} {C : Addr} {sp : Sp} {dvs : List V} {m : Nat} {gV : List V → List V → List V} {D : Ends}
theorem r_veI (q : ta σ H fun vs H1 => ∃ (a C : Addr) (ws : List V), vs = .ref a :: ws ∧ ws.length ≤ 1000 ∧ OexC K C ∧ H1 a = some (exo a C none) ∧ Q .non H1) : tVeI K ta σ H Q := q
theorem r_ost (q : te σ H fun y H1 => to σ H1 fun x H2 => ∃ a C : Addr, x = .ref a ∧ OexC K C ∧ PySem.W.findIn K (.ref C) f = some none ∧
    ((H2 a = some (exo a C none) ∧ ∀ dx, H2 dx = none → dx ≠ a → D.nx σ (upd (upd H2 dx (exd dx [(f, y)])) a (exo a C (some dx)))) ∨
      ∃ (dx : Addr) (fs : List (Str × V)), H2 a = some (exo a C (some dx)) ∧ H2 dx = some (exd dx fs) ∧ fs.length ≤ 900 ∧ D.nx σ (upd H2 dx (exd dx ((f, y) :: fs))))) : tOst K f to te D σ H := q
theorem r_err (q : ta σ H fun vs H1 => vs.length ≤ 1000 ∧ ∀ a, H1 a = none → sp (.ref a :: (vs ++ dvs)) (upd H1 a (exo a C none)) (fun v H2 => v = .non ∧ Q (.ref a) H2) (fun _ _ _ => False)) : tErr C sp dvs ta σ H Q := q
theorem r_errK (q : tk σ H fun zs H1 => zs.length = m ∧ ∀ a, H1 a = none → sp (gV [.ref a] zs) (upd H1 a (exo a C none)) (fun v H2 => v = .non ∧ Q (.ref a) H2) (fun _ _ _ => False)) : tErrK C m sp gV tk σ H Q := q
theorem r_exc0 (q : ∀ a, H a = none → Q (.ref a) (upd H a (errV a (.ref C) none))) : tExc0 C σ H Q := q
theorem r_errF (q : te σ H fun x H1 => ∃ (a D : Addr) (fs : List (Str × V)) (v : V), x = .ref a ∧ ErrK H1 a D fs ∧ XfC K D ∧ PySem.W.findIn K (.ref D) f = some none ∧ fs.lookup f = some v ∧ Q v H1) : tErrF K te f σ H Q := q
end
end CP

set_option Elab.async false
set_option linter.all false
set_option maxRecDepth 100000
set_option maxHeartbeats 4000000
set_option autoImplicit false
/-! a text times a number; int(x) -/
namespace CP
open L2 PySem PyProof.Rows
def oInt : List V → Hp → VK → Prop := fun xs H Q => (∃ i, xs = [.int i] ∧ Q (.int i) H) ∨ ∃ k, xs = [.bl k] ∧ Q (.int (if k then 1 else 0)) H
theorem r_oInt {i : Int} {H : Hp} {Q : VK} (q : Q (.int i) H) : oInt [.int i] H Q := .inl ⟨i, rfl, q⟩
def repS (x : Str) (n : Int) : Str := if n < 1 then Str.empty else if (n == 1 || x.length == 0) = true then x else ⟨(List.replicate n.toNat x.cps).foldl (· ++ ·) #[]⟩
def rRepS : R2 := fun x y H Q => ∃ z n, x = .str z ∧ y = .int n ∧ z.length ≤ 1000 ∧ 0 ≤ n ∧ n ≤ 1000 ∧ (repS z n).length ≤ sizeLine ∧ Q (.str (repS z n)) H
theorem op_repS {X : Cx} : OpR X (binaryOp .Mult) rRepS := by
  intro pins s σ H x y v u Q I rx ry h
  obtain ⟨z, n, rfl, rfl, hz, n0, n1, few, q⟩ := h
  obtain ⟨t, rfl⟩ := rx
  obtain ⟨t2, rfl⟩ := ry
  have nb : z.length * n.toNat ≤ 1000 * 1000 := Nat.mul_le_mul hz (by omega)
  refine PySem.P.mul_str (by rw [decide_eq_false (by omega), decide_eq_false (by omega)]; rfl) (fun h1 _ => ?_) (fun _ _ => ?_) ?_
  · have h2 : (1000 : Int) * 1000 ≤ 2 ^ 63 - 1 := by decide
    have h3 : (z.length : Int) * n ≤ 2 ^ 63 - 1 := by
      have : (z.length : Int) * n ≤ 1000 * 1000 := Int.mul_le_mul (by omega) n1 n0 (by decide)
      omega
    have := (Int.le_ediv_iff_mul_le (by omega : 0 < n)).mpr h3
    omega
  · have h5 : ¬ z.length * n.toNat > sizeLine := by
      have : sizeLine = 16777216 := rfl
      omega
    exact decide_eq_false h5
  · unfold repS at q few
    by_cases c1 : n < 1
    · rw [if_pos c1] at q few ⊢
      exact ⟨few, .str _, H, I.tok _, ⟨_, rfl⟩, q⟩
    · rw [if_neg c1] at q few ⊢
      by_cases c2 : (n == 1 || z.length == 0) = true
      · rw [if_pos c2] at q few ⊢
        exact ⟨.str _, H, I, ⟨_, rfl⟩, q⟩
      · rw [if_neg c2] at q few ⊢
        exact ⟨few, .str _, H, I.tok _, ⟨_, rfl⟩, q⟩
end CP

set_option Elab.async false
set_option linter.all false
set_option maxRecDepth 100000
set_option maxHeartbeats 4000000
set_option autoImplicit false
/-! which error class is which: a table of isinstance -/
namespace CP
open L2 PySem PyProof.Rows
/-- no class of cs is another's, all are b's and ValueErrors -/
def kitTab (K : PySem.W.Frag) (cs : List Addr) (b : Addr) : Bool :=
  (cs ++ [b]).zipIdx.all fun p => PySem.W.kitOne K (.ref p.1) (.type "ValueError") == some true && PySem.W.kitOne K (.ref p.1) (.ref b) == some true &&
    cs.zipIdx.all fun q => PySem.W.kitOne K (.ref p.1) (.ref q.1) == some (p.2 == q.2)
section
variable {K : PySem.W.Frag} {cs : List Addr} {b d c : Addr} {i j : Nat}
theorem kitTab.own (h : kitTab K cs b = true) (hi : (cs ++ [b])[i]? = some d) (hj : cs[j]? = some c) : PySem.W.kitOne K (.ref d) (.ref c) = some (i == j) := by
  unfold kitTab at h
  rw [List.all_eq_true] at h
  have h1 := h (d, i) (List.mem_zipIdx_iff_getElem?.mpr hi)
  simp only [Bool.and_eq_true, List.all_eq_true, beq_iff_eq] at h1
  exact h1.2 (c, j) (List.mem_zipIdx_iff_getElem?.mpr hj)
theorem kitTab.top (h : kitTab K cs b = true) (hi : (cs ++ [b])[i]? = some d) : PySem.W.kitOne K (.ref d) (.ref b) = some true ∧ PySem.W.kitOne K (.ref d) (.type "ValueError") = some true := by
  unfold kitTab at h
  rw [List.all_eq_true] at h
  have h1 := h (d, i) (List.mem_zipIdx_iff_getElem?.mpr hi)
  simp only [Bool.and_eq_true, List.all_eq_true, beq_iff_eq] at h1
  exact ⟨h1.1.2, h1.1.1⟩
end
/-- what the own __init__ of an error class promises, read behind the making -/
theorem made_errS {sp : Sp} {C : Addr} {f : Str} {v : V} {H : Hp} {Qa : Hp → Prop} {E : XK} {a : Addr}
    (hs : ∀ (H : Hp) (Q : VK), (H a = some (exo a C none) ∧ ∀ dx, H dx = none → dx ≠ a → Q .non (upd (upd H dx (exd dx [(f, v)])) a (exo a C (some dx)))) → sp [.ref a, v] H Q E)
    (n : H a = none) (q : ∀ H', Same H H' → ErrK H' a C [(f, v)] → Qa H') : sp [.ref a, v] (upd H a (exo a C none)) (fun x H2 => x = .non ∧ Qa H2) E := by
  refine hs _ _ ⟨upd_same, fun dx nd ne => ⟨rfl, q _ (fun b o e => ?_) ?_⟩⟩
  · have ba : b ≠ a := fun z => by subst z; rw [n] at e; cases e
    rw [upd_ne ne] at nd
    have bd : b ≠ dx := fun z => by subst z; rw [nd] at e; cases e
    rw [upd_ne ba, upd_ne bd, upd_ne ba]
    exact e
  · refine ⟨some dx, .inl upd_same, .inr ⟨dx, rfl, .inl ?_⟩⟩
    rw [upd_ne ne]
    exact upd_same
/-- an error without an own __init__ -/
theorem made_err0 {C : Addr} {H : Hp} {Q : VK} (q : ∀ a H', Same H H' → ErrK H' a C [] → Q (.ref a) H') {a : Addr} (n : H a = none) : Q (.ref a) (upd H a (errV a (.ref C) none)) :=
  q a _ (same_new n) ⟨none, .inr upd_same, .inl ⟨rfl, rfl⟩⟩
/-- these errors stand there, of these classes, each with these fields -/
def Errs (H : Hp) (cs : List Addr) (fs : List (List (Str × V))) (es : List Addr) : Prop := es.length = cs.length ∧ fs.length = cs.length ∧ ∀ (i : Nat) (e c : Addr) (f : List (Str × V)), es[i]? = some e → cs[i]? = some c → fs[i]? = some f → ErrK H e c f
theorem Errs.nil {H : Hp} : Errs H [] [] [] := ⟨rfl, rfl, fun i e c f h => by simp at h⟩
theorem Errs.mono {H H' : Hp} {cs : List Addr} {fs : List (List (Str × V))} {es : List Addr} (h : Errs H cs fs es) (s : Same H H') : Errs H' cs fs es := ⟨h.1, h.2.1, fun i e c f a b d => (h.2.2 i e c f a b d).mono s⟩
theorem Errs.snoc {H : Hp} {c e : Addr} {f : List (Str × V)} {cs es : List Addr} {fs : List (List (Str × V))} (t : Errs H cs fs es) (h : ErrK H e c f) : Errs H (cs ++ [c]) (fs ++ [f]) (es ++ [e]) := by
  obtain ⟨t1, t2, t3⟩ := t
  refine ⟨by simp [t1], by simp [t2], fun i e' c' f' a b d => ?_⟩
  by_cases hi : i < es.length
  · rw [List.getElem?_append_left hi] at a
    rw [List.getElem?_append_left (by omega)] at b d
    exact t3 i _ _ _ a b d
  · have hl : (es ++ [e]).length = es.length + 1 := by simp
    obtain ⟨z, _⟩ := List.getElem?_eq_some_iff.mp a
    have z1 : i - es.length = 0 := by omega
    have z2 : i - cs.length = 0 := by omega
    have z3 : i - fs.length = 0 := by omega
    rw [List.getElem?_append_right (by omega), z1] at a
    rw [List.getElem?_append_right (by omega), z2] at b
    rw [List.getElem?_append_right (by omega), z3] at d
    cases a; cases b; cases d
    exact h
/-- the fields of the thirteen errors that keep something -/
def fldsK (v : V) : List (List (Str × V)) := List.replicate 11 [(("value" : Str), v)] ++ [[(("name" : Str), v)], [(("place" : Str), v)]]
end CP

set_option Elab.async false
set_option linter.all false
set_option maxRecDepth 100000
set_option maxHeartbeats 4000000
set_option autoImplicit false
/-! repr of data in which dicts stand -/
namespace CP
open L2 PySem PyProof.Rows
def kD : Key → PyData
  | .inl i => .int i
  | .inr x => .str x
mutual
inductive DpD (H : Hp) : V → PyData → Prop
  | non : DpD H .non .none
  | bl (b : Bool) : DpD H (.bl b) (.bool b)
  | int (i : Int) : DpD H (.int i) (.int i)
  | str (x : Str) : DpD H (.str x) (.str x)
  | lst {a : Addr} {xs : List V} {ds : List PyData} : Rd H a (.lst xs) → a ≠ sysModules → DpDs H xs ds → DpD H (.ref a) (.list ds)
  | tup {a : Addr} {xs : List V} {ds : List PyData} : Rd H a (.tup xs) → DpDs H xs ds → DpD H (.ref a) (.tuple ds)
  | dct {a : Addr} {kvs : List (Key × V)} {ds : List PyData} : Rd H a (.dK kvs) → DpDs H (kvs.map (·.2)) ds → DpD H (.ref a) (.dict ((kvs.map fun p => kD p.1).zip ds))
inductive DpDs (H : Hp) : List V → List PyData → Prop
  | nil : DpDs H [] []
  | cons {v : V} {vs : List V} {d : PyData} {ds : List PyData} : DpD H v d → DpDs H vs ds → DpDs H (v :: vs) (d :: ds)
end
theorem DpDs.len {H : Hp} {vs : List V} {ds : List PyData} (h : DpDs H vs ds) : vs.length = ds.length := by
  induction vs generalizing ds with
  | nil => cases h; rfl
  | cons v vs ih => cases h with | cons _ t => simp [ih t]
theorem DpDs.rep {H : Hp} {v : V} {d : PyData} (h : DpD H v d) : ∀ n : Nat, DpDs H (List.replicate n v) (List.replicate n d)
  | 0 => .nil
  | n + 1 => .cons h (DpDs.rep h n)
theorem rd_mono {H H' : Hp} {a : Addr} {o : HO} (s : Same H H') (h : Rd H a o) : Rd H' a o := by
  rcases h with h | ⟨u, h⟩
  · exact .inl (CP.Same.to s h)
  · exact .inr ⟨u, CP.Same.to s h⟩
mutual
theorem DpD.mono {H H' : Hp} (s : Same H H') : ∀ {v : V} {d : PyData}, DpD H v d → DpD H' v d
  | _, _, .non => .non
  | _, _, .bl b => .bl b
  | _, _, .int i => .int i
  | _, _, .str x => .str x
  | _, _, .lst r n h => .lst (rd_mono s r) n (DpDs.mono s h)
  | _, _, .tup r h => .tup (rd_mono s r) (DpDs.mono s h)
  | _, _, .dct r h => .dct (rd_mono s r) (DpDs.mono s h)
theorem DpDs.mono {H H' : Hp} (s : Same H H') : ∀ {v : List V} {d : List PyData}, DpDs H v d → DpDs H' v d
  | _, _, .nil => .nil
  | _, _, .cons a b => .cons (DpD.mono s a) (DpDs.mono s b)
end
theorem kD_reads {h : Heap} {k : Key} {v : Value} (z : keyIs k v = true) : Reads h v (kD k) [] := by
  rcases keyIs_shape z with ⟨i, t, rfl, rfl⟩ | ⟨x, t, rfl, rfl⟩
  · exact .int i t
  · exact .str x t
theorem keys_reads {P : Program} {w : World} {h : Heap} {es : List DictEntry} {vs : List (Key × Value)} (q : Pairs (mixKind P w) es vs) : ReadsAll h (es.map (·.key)) (vs.map fun p => kD p.1) [] := by
  induction q with
  | nil => exact .nil
  | cons a b _ ih => exact ReadsAll.cons (as := []) (bs := []) (kD_reads a) ih
theorem vals_eq {P : Program} {w : World} {es : List DictEntry} {vs : List (Key × Value)} (q : Pairs (mixKind P w) es vs) : es.map (·.val) = vs.map (·.2) := by
  induction q with
  | nil => rfl
  | cons a b _ ih => simp [b, ih]
theorem kv_keys {kvs : List (Key × V)} {vs : List (Key × Value)} (q : KV kvs vs) : (vs.map fun p => kD p.1) = kvs.map fun p => kD p.1 := by
  unfold KV at q
  induction q with
  | nil => rfl
  | cons a _ ih => simp [a.1, ih]
theorem kv_vals {kvs : List (Key × V)} {vs : List (Key × Value)} (q : KV kvs vs) : Vals (kvs.map (·.2)) (vs.map (·.2)) := by
  unfold KV at q
  induction q with
  | nil => exact .nil
  | cons a _ ih => exact .cons a.2 ih
section
variable {X : Cx} {pins : List (Addr × Obj)} {σ : L2.St} {H : Hp} {s : Shared}
mutual
theorem DpD.reads (I : Inv X pins σ H s) : ∀ {v : V} {d : PyData} (u : Value), DpD H v d → RelV v u → ∃ as, Reads s.heap u d as ∧ sysModules ∉ as
  | _, _, _, .non, r => by cases r; exact ⟨_, .none, (by simp)⟩
  | _, _, _, .bl b, r => by cases r; exact ⟨_, .bool b, (by simp)⟩
  | _, _, _, .int i, r => by obtain ⟨t, rfl⟩ := r; exact ⟨_, .int i t, (by simp)⟩
  | _, _, _, .str x, r => by obtain ⟨t, rfl⟩ := r; exact ⟨_, .str x t, (by simp)⟩
  | _, _, _, .lst hs ne ha, r => by
    cases r
    obtain ⟨its, rv, ⟨o, n, ho, hc, _, hd⟩, _⟩ := I.list (.inl hs)
    obtain ⟨as, hr, tk⟩ := DpDs.reads I its ha rv
    exact ⟨_, Reads.list ho hc hd hr, fun z => (List.mem_cons.mp z).elim (fun e => ne e.symm) tk⟩
  | _, _, _, .tup hs ha, r => by
    cases r
    obtain ⟨its, rv, ⟨o, ho, hc, n, hd⟩, _⟩ := I.tuple (.inl hs)
    obtain ⟨as, hr, tk⟩ := DpDs.reads I its ha rv
    exact ⟨_, Reads.tuple ho hc hd hr, tk⟩
  | _, _, _, .dct (kvs := kvs) (ds := ds) hs ha, r => by
    cases r
    obtain ⟨_, na, vs, q, o, es, ep, e, ed, hd, _, pr, _⟩ := dk_rd I.hok hs
    obtain ⟨as, hr, tk⟩ := DpDs.reads I _ ha (kv_vals q)
    have hk := keys_reads (h := s.heap) pr
    rw [kv_keys q] at hk
    rw [← vals_eq pr] at hr
    have ln : (kvs.map fun p => kD p.1).length = ds.length := by
      have := ha.len
      simp at this ⊢
      exact this
    refine ⟨_, Reads.dict (as := []) (bs := as) e ?_ hd ?_ ?_, ?_⟩
    · exact ed.1
    · rw [List.map_fst_zip (by omega)]; exact hk
    · rw [List.map_snd_zip (by omega)]; exact hr
    · intro z
      simp only [List.append_nil, List.cons_append, List.nil_append, List.mem_cons] at z
      rcases z with z | z
      · rw [← z] at na
        cases na
      · exact tk z
theorem DpDs.reads (I : Inv X pins σ H s) : ∀ {vs : List V} {ds : List PyData} (us : List Value), DpDs H vs ds → Vals vs us → ∃ as, ReadsAll s.heap us ds as ∧ sysModules ∉ as
  | _, _, _, .nil, r => by cases r; exact ⟨_, .nil, (by simp)⟩
  | _, _, _, .cons h1 h2, r => by
    cases r with
    | cons r1 r2 =>
      obtain ⟨as, q1, t1⟩ := DpD.reads I _ h1 r1
      obtain ⟨bs, q2, t2⟩ := DpDs.reads I _ h2 r2
      exact ⟨_, .cons q1 q2, fun z => (List.mem_append.mp z).elim t1 t2⟩
end
/-- repr of such data -/
def rReprD (K : PySem.W.Frag) : List V → Hp → VK → Prop := fun xs H Q => ∃ a d, xs = [.ref a] ∧ ((Dp K H (.ref a) d ∧ d.hasDict = false) ∨ DpD H (.ref a) d) ∧ d.showable = true ∧ d.depth ≤ 60 ∧ d.shown.length ≤ sizeLine ∧ Q (.str d.shown) H
theorem call_reprDD (gd : Gd X.A) (hu : X.A.units + 64 < cLine) : CallR X (.builtin "repr") (rReprD X.K) := by
  intro pins s σ H xs us Q I r h
  obtain ⟨a, d, rfl, hd, hs, h6, hz, q⟩ := h
  obtain ⟨u, rfl, ru⟩ := vals1 r
  have key : ∃ as, Reads s.heap u d as ∧ (d.hasDict = true → sysModules ∉ as) := by
    rcases hd with ⟨hd, hn⟩ | hd
    · obtain ⟨as, rd⟩ := Dp.reads I d _ u hd ru
      exact ⟨as, rd, fun z => by rw [hn] at z; cases z⟩
    · obtain ⟨as, rd, tk⟩ := hd.reads I u ru
      exact ⟨as, rd, fun _ => tk⟩
  obtain ⟨as, rd, tk⟩ := key
  cases (show u = Value.ref a from ru)
  exact repr_of_reads' rd hs tk gd (by omega) (fun _ _ z => z) (fun h' v tk keep => ⟨.str d.shown, H, inv_grow I keep (Same.refl _) (fun _ _ z => .inl z), ⟨_, rfl⟩, q⟩) hz
/-- list + list, list * int: the new list is not the table of modules -/
def rCatX : R2 := fun x y H Q => ∃ l b xs zs, x = .ref l ∧ y = .ref b ∧ H l = some (.lst xs) ∧ H b = some (.lst zs) ∧ xs.length + zs.length ≤ sizeLine ∧ ∀ p, p ≠ sysModules → H p = none → Q (.ref p) (upd H p (.lst (xs ++ zs)))
theorem new_ne (I : Inv X pins σ H s) : s.heap.objs.size ≠ sysModules := fun e => by
  have := I.big
  rw [e] at this
  exact Nat.lt_irrefl _ this
theorem op_catX : OpR X (binaryOp .Add) rCatX := by
  intro pins s σ H x y v u Q I rx ry ⟨l, b, xs, zs, e1, e2, hl, hb, sz, q⟩
  subst e1 e2
  cases rx
  cases ry
  obtain ⟨_, i1, n1, r1, l1, g1⟩ := I.lstM hl
  obtain ⟨_, i2, n2, r2, l2, g2⟩ := I.lstM hb
  refine PySem.P.add_list g1 g2 ?_ (by simp only [List.size_toArray]; omega)
  rw [show i1.toArray ++ i2.toArray = (i1 ++ i2).toArray by simp]
  exact ⟨.ref _, _, I.lnew (t' := s.toks) (r1.append r2) (by simp only [List.length_append]; omega), rfl, q _ (new_ne I) I.fresh⟩
def rRepX : R2 := fun x y H Q => ∃ l k xs, x = .ref l ∧ y = .int k ∧ H l = some (.lst xs) ∧ 0 ≤ k ∧ k < 2 ^ 63 ∧ xs.length * k.toNat ≤ sizeLine ∧ ∀ p, p ≠ sysModules → H p = none → Q (.ref p) (upd H p (.lst (List.replicate k.toNat xs).flatten))
theorem op_repX : OpR X (binaryOp .Mult) rRepX := by
  intro pins s σ H x y v u Q I rx ry ⟨l, k, xs, e1, e2, hl, k0, k1, sz, q⟩
  subst e1 e2
  cases rx
  obtain ⟨tk, rfl⟩ := ry
  obtain ⟨_, its, n, rv, ll, g⟩ := I.lstM hl
  have sz' : its.toArray.size * k.toNat ≤ sizeLine := by simp only [List.size_toArray]; rw [← ll]; exact sz
  have cap : ¬ its.toArray.size * k.toNat > (2 ^ 63 - 1) / 8 := fun z => by
    have : (sizeLine : Nat) ≤ (2 ^ 63 - 1) / 8 := by decide
    omega
  have fits : ¬ (!Builtin.List.listFitsIndex k) = true := by rw [fitsIndex_both (by omega) k1]; simp
  have short : ¬ Builtin.List.listTooLong (its.toArray.size * k.toNat) = true := by rw [notLongL sz']; simp
  have made : List.foldl (fun y z => y ++ z) #[] (List.replicate (if its.toArray.isEmpty = true then 0 else k.toNat) its.toArray) = (List.replicate k.toNat its).flatten.toArray := by
    have all : ∀ m : Nat, List.foldl (fun y z => y ++ z) #[] (List.replicate m its.toArray) = (List.replicate m its).flatten.toArray := fun m => by
      simpa using foldl_rep its m []
    rw [all]
    cases its <;> simp
  refine wpAny_binaryOp_repeat_ref (T := "list") (U := "int") (by decide) ⟨_, g, rfl⟩ (fun s' => typeIs_int s' k tk) noFill_list_mul F.fills_int_mul F.slot_int_rmul repeat_list
    F.slot_int_index.lookup (call_meets F.slot_int_rmul (typeIs_int s k tk) F.entry_int_rmul (F.args_int_rmul_2 _ _) (int___rmul___int_list k tk l its.toArray n)
      ⟨g, rfl, ⟨_, g, rfl⟩, call_meets F.slot_list_mul ⟨_, g, rfl⟩ F.entry_list_mul (F.args_list_mul_2 _ _) (AutoListH.list___mul___list_int_3 l its.toArray n k tk fits cap short) ⟨g, ?_⟩⟩)
  rw [made]
  exact ⟨.ref _, _, I.lnew (t' := s.toks) (rv.rep k.toNat) (by rw [PyProof.Rows.lm_len_rep_flat, Nat.mul_comm]; exact sz), rfl, q _ (new_ne I) I.fresh⟩
end
theorem r_catX {H : Hp} {Q : VK} {l b : Addr} {xs zs : List V} (h : H l = some (.lst xs)) (g : H b = some (.lst zs)) (sz : xs.length + zs.length ≤ sizeLine) (q : ∀ p H', p ≠ sysModules → Same H H' → H' p = some (.lst (xs ++ zs)) → Q (.ref p) H') : rCatX (.ref l) (.ref b) H Q :=
  ⟨l, b, xs, zs, rfl, rfl, h, g, sz, fun p ne n => q p _ ne (same_new n) upd_same⟩
theorem r_repX {H : Hp} {Q : VK} {l : Addr} {xs : List V} {k : Int} (h : H l = some (.lst xs)) (k0 : 0 ≤ k) (k1 : k < 2 ^ 63) (sz : xs.length * k.toNat ≤ sizeLine) (q : ∀ p H', p ≠ sysModules → Same H H' → H' p = some (.lst (List.replicate k.toNat xs).flatten) → Q (.ref p) H') : rRepX (.ref l) (.int k) H Q :=
  ⟨l, k, xs, rfl, rfl, h, k0, k1, sz, fun p ne n => q p _ ne (same_new n) upd_same⟩
/-- data that repr shows in few signs -/
structure Shw (d : PyData) : Prop where
  show_ : d.showable = true
  flat : d.depth ≤ 3
  short : PyData.leavesShort 40 d = true
  light : d.weight ≤ 500
/-- the same, somewhat more -/
structure ShwW (d : PyData) : Prop where
  show_ : d.showable = true
  flat : d.depth ≤ 3
  short : PyData.leavesShort 40 d = true
  light : d.weight ≤ 1000
theorem Shw.w {d : PyData} (h : Shw d) : ShwW d := ⟨h.show_, h.flat, h.short, Nat.le_trans h.light (by decide)⟩
theorem showA_app : ∀ (a b : List PyData), PyData.showableAll (a ++ b) = (PyData.showableAll a && PyData.showableAll b)
  | [], b => by simp [PyData.showableAll]
  | x :: a, b => by simp [PyData.showableAll, showA_app a b, Bool.and_assoc]
theorem shortA_app (B : Nat) : ∀ (a b : List PyData), PyData.leavesShortAll B (a ++ b) = (PyData.leavesShortAll B a && PyData.leavesShortAll B b)
  | [], b => by simp [PyData.leavesShortAll]
  | x :: a, b => by simp [PyData.leavesShortAll, shortA_app B a b, Bool.and_assoc]
theorem dictA_app : ∀ (a b : List PyData), PyData.hasDictAll (a ++ b) = (PyData.hasDictAll a || PyData.hasDictAll b)
  | [], b => by simp [PyData.hasDictAll]
  | x :: a, b => by simp [PyData.hasDictAll, dictA_app a b, Bool.or_assoc]
theorem depthA_app : ∀ (a b : List PyData), PyData.depthAll (a ++ b) = max (PyData.depthAll a) (PyData.depthAll b)
  | [], b => by simp [PyData.depthAll]
  | x :: a, b => by simp only [List.cons_append, PyData.depthAll, depthA_app a b]; omega
theorem weightA_app : ∀ (a b : List PyData), PyData.weightAll (a ++ b) = PyData.weightAll a + PyData.weightAll b
  | [], b => by simp [PyData.weightAll]
  | x :: a, b => by simp only [List.cons_append, PyData.weightAll, weightA_app a b]; omega
theorem DpA_app {K : PySem.W.Frag} {H : Hp} {xs ys : List V} {ds es : List PyData} (h : DpAll K H xs ds) (g : DpAll K H ys es) : DpAll K H (xs ++ ys) (ds ++ es) := by
  induction xs generalizing ds with
  | nil => cases h; exact g
  | cons x xs ih => cases h with | cons a b => exact .cons a (ih b)
theorem Shw.later {ds : List PyData} (h : Shw (.list ds)) : ShwW (.list (ds ++ [.str "later"])) := by
  obtain ⟨a, b, c, d⟩ := h
  refine ⟨?_, ?_, ?_, ?_⟩
  · simp only [PyData.showable] at a ⊢
    rw [showA_app, a]; rfl
  · simp only [PyData.depth] at b ⊢
    rw [depthA_app]
    simp only [PyData.depthAll, PyData.depth]
    omega
  · simp only [PyData.leavesShort] at c ⊢
    rw [shortA_app, c]; decide +kernel
  · simp only [PyData.weight] at d ⊢
    rw [weightA_app]
    have : PyData.weightAll [PyData.str "later"] = 6 := by decide +kernel
    omega
/-- what an error may be given: it is not a list and stays what it is, or a list -/
def ThingT (K : PySem.W.Frag) (H : Hp) (v : V) : Prop := ∃ (d : PyData) (n : String), Shw d ∧ n ∈ ["NoneType", "bool", "int", "str", "tuple", "dict"] ∧ ∀ H', Same H H' → TK K H' v n ∧ ((Dp K H' v d ∧ d.hasDict = false) ∨ DpD H' v d)
def ThingL (K : PySem.W.Frag) (H : Hp) (v : V) : Prop := ∃ (a : Addr) (xs : List V) (ds : List PyData), v = .ref a ∧ H a = some (.lst xs) ∧ xs.length ≤ 3 ∧ Shw (.list ds) ∧ PyData.hasDictAll ds = false ∧ ∀ H', (∀ b o, b ≠ a → H b = some o → H' b = some o) → DpAll K H' xs ds
end CP

namespace CP
open PySem L2
def top (i : Nat) : Stmt := PySem.Challenge.pw_cellplaces_k01_errors_made.main.body.getD i (.Pass ⟨0, 0, 0, 0⟩)
abbrev s_InvalidText___init : Stmt := inClass (top 2) 0
abbrev s_InvalidForm___init : Stmt := inClass (top 3) 0
abbrev s_InvalidLetter___init : Stmt := inClass (top 4) 0
abbrev s_InvalidNumber___init : Stmt := inClass (top 5) 0
abbrev s_InvalidLoops___init : Stmt := inClass (top 6) 0
abbrev s_ShortLoop___init : Stmt := inClass (top 7) 0
abbrev s_InvalidShape___init : Stmt := inClass (top 8) 0
abbrev s_InvalidValues___init : Stmt := inClass (top 10) 0
abbrev s_InvalidCell___init : Stmt := inClass (top 11) 0
abbrev s_InvalidSides___init : Stmt := inClass (top 12) 0
abbrev s_InvalidTable___init : Stmt := inClass (top 13) 0
abbrev s_InvalidWalk___init : Stmt := inClass (top 14) 0
abbrev s_NoRoom___init : Stmt := inClass (top 16) 0
abbrev s_law_classes : Stmt := top 19
abbrev s_law_fields : Stmt := top 20
abbrev s_law_placed : Stmt := top 21
abbrev s_law_thing : Stmt := top 22
abbrev s_law_made : Stmt := top 23
abbrev s_law_by_name : Stmt := top 24
abbrev s_law : Stmt := top 25
theorem sc_InvalidText___init : FnScope ["self", "value"] ["self", "value"] (defScope s_InvalidText___init) := ⟨rfl, rfl, rfl, by decide +kernel, rfl, by decide +kernel, by decide +kernel⟩
theorem sc_InvalidForm___init : FnScope ["self", "value"] ["self", "value"] (defScope s_InvalidForm___init) := ⟨rfl, rfl, rfl, by decide +kernel, rfl, by decide +kernel, by decide +kernel⟩
theorem sc_InvalidLetter___init : FnScope ["self", "value"] ["self", "value"] (defScope s_InvalidLetter___init) := ⟨rfl, rfl, rfl, by decide +kernel, rfl, by decide +kernel, by decide +kernel⟩
theorem sc_InvalidNumber___init : FnScope ["self", "value"] ["self", "value"] (defScope s_InvalidNumber___init) := ⟨rfl, rfl, rfl, by decide +kernel, rfl, by decide +kernel, by decide +kernel⟩
theorem sc_InvalidLoops___init : FnScope ["self", "value"] ["self", "value"] (defScope s_InvalidLoops___init) := ⟨rfl, rfl, rfl, by decide +kernel, rfl, by decide +kernel, by decide +kernel⟩
theorem sc_ShortLoop___init : FnScope ["self", "name"] ["self", "name"] (defScope s_ShortLoop___init) := ⟨rfl, rfl, rfl, by decide +kernel, rfl, by decide +kernel, by decide +kernel⟩
theorem sc_InvalidShape___init : FnScope ["self", "value"] ["self", "value"] (defScope s_InvalidShape___init) := ⟨rfl, rfl, rfl, by decide +kernel, rfl, by decide +kernel, by decide +kernel⟩
theorem sc_InvalidValues___init : FnScope ["self", "value"] ["self", "value"] (defScope s_InvalidValues___init) := ⟨rfl, rfl, rfl, by decide +kernel, rfl, by decide +kernel, by decide +kernel⟩
theorem sc_InvalidCell___init : FnScope ["self", "value"] ["self", "value"] (defScope s_InvalidCell___init) := ⟨rfl, rfl, rfl, by decide +kernel, rfl, by decide +kernel, by decide +kernel⟩
theorem sc_InvalidSides___init : FnScope ["self", "value"] ["self", "value"] (defScope s_InvalidSides___init) := ⟨rfl, rfl, rfl, by decide +kernel, rfl, by decide +kernel, by decide +kernel⟩
theorem sc_InvalidTable___init : FnScope ["self", "value"] ["self", "value"] (defScope s_InvalidTable___init) := ⟨rfl, rfl, rfl, by decide +kernel, rfl, by decide +kernel, by decide +kernel⟩
theorem sc_InvalidWalk___init : FnScope ["self", "value"] ["self", "value"] (defScope s_InvalidWalk___init) := ⟨rfl, rfl, rfl, by decide +kernel, rfl, by decide +kernel, by decide +kernel⟩
theorem sc_NoRoom___init : FnScope ["self", "place"] ["self", "place"] (defScope s_NoRoom___init) := ⟨rfl, rfl, rfl, by decide +kernel, rfl, by decide +kernel, by decide +kernel⟩
theorem sc_law_classes : FnScope ["_law_error", "_law_found"] ["_law_error"] (defScope s_law_classes) := ⟨rfl, rfl, rfl, by decide +kernel, rfl, by decide +kernel, by decide +kernel⟩
theorem sc_law_fields : FnScope ["_law_errors", "_law_error"] ["_law_errors"] (defScope s_law_fields) := ⟨rfl, rfl, rfl, by decide +kernel, rfl, by decide +kernel, by decide +kernel⟩
theorem sc_law_placed : FnScope ["_law_errors", "_law_at", "_law_error", "_law_spot"] ["_law_errors"] (defScope s_law_placed) := ⟨rfl, rfl, rfl, by decide +kernel, rfl, by decide +kernel, by decide +kernel⟩
theorem sc_law_thing : FnScope ["_law_cell", "_law_at", "_law_many", "_law_values"] ["_law_cell", "_law_at"] (defScope s_law_thing) := ⟨rfl, rfl, rfl, by decide +kernel, rfl, by decide +kernel, by decide +kernel⟩
theorem sc_law_made : FnScope ["_law_thing_here", "_law_found"] ["_law_thing_here"] (defScope s_law_made) := ⟨rfl, rfl, rfl, by decide +kernel, rfl, by decide +kernel, by decide +kernel⟩
theorem sc_law_by_name : FnScope ["_law_thing_here", "_law_found"] ["_law_thing_here"] (defScope s_law_by_name) := ⟨rfl, rfl, rfl, by decide +kernel, rfl, by decide +kernel, by decide +kernel⟩
theorem sc_law : FnScope ["_law_script", "_law_at", "_law_thing_here", "_law_errors", "_law_by_name_here", "_law_bare", "_law_some", "_law_field"] ["_law_script"] (defScope s_law) := ⟨rfl, rfl, rfl, by decide +kernel, rfl, by decide +kernel, by decide +kernel⟩
structure Txt (K : PySem.W.Frag) (mg : Str → Option Value) where
  a_InvalidText___init : Addr
  fd_InvalidText___init : FuncData
  F_InvalidText___init : FunD K "__init__" "InvalidText.__init__" (defArgs s_InvalidText___init) (defBody s_InvalidText___init) (defScope s_InvalidText___init) [.non] [] a_InvalidText___init fd_InvalidText___init
  a_InvalidForm___init : Addr
  fd_InvalidForm___init : FuncData
  F_InvalidForm___init : FunD K "__init__" "InvalidForm.__init__" (defArgs s_InvalidForm___init) (defBody s_InvalidForm___init) (defScope s_InvalidForm___init) [.non] [] a_InvalidForm___init fd_InvalidForm___init
  a_InvalidLetter___init : Addr
  fd_InvalidLetter___init : FuncData
  F_InvalidLetter___init : FunD K "__init__" "InvalidLetter.__init__" (defArgs s_InvalidLetter___init) (defBody s_InvalidLetter___init) (defScope s_InvalidLetter___init) [.non] [] a_InvalidLetter___init fd_InvalidLetter___init
  a_InvalidNumber___init : Addr
  fd_InvalidNumber___init : FuncData
  F_InvalidNumber___init : FunD K "__init__" "InvalidNumber.__init__" (defArgs s_InvalidNumber___init) (defBody s_InvalidNumber___init) (defScope s_InvalidNumber___init) [.non] [] a_InvalidNumber___init fd_InvalidNumber___init
  a_InvalidLoops___init : Addr
  fd_InvalidLoops___init : FuncData
  F_InvalidLoops___init : FunD K "__init__" "InvalidLoops.__init__" (defArgs s_InvalidLoops___init) (defBody s_InvalidLoops___init) (defScope s_InvalidLoops___init) [.non] [] a_InvalidLoops___init fd_InvalidLoops___init
  a_ShortLoop___init : Addr
  fd_ShortLoop___init : FuncData
  F_ShortLoop___init : FunD K "__init__" "ShortLoop.__init__" (defArgs s_ShortLoop___init) (defBody s_ShortLoop___init) (defScope s_ShortLoop___init) [.non] [] a_ShortLoop___init fd_ShortLoop___init
  a_InvalidShape___init : Addr
  fd_InvalidShape___init : FuncData
  F_InvalidShape___init : FunD K "__init__" "InvalidShape.__init__" (defArgs s_InvalidShape___init) (defBody s_InvalidShape___init) (defScope s_InvalidShape___init) [.non] [] a_InvalidShape___init fd_InvalidShape___init
  a_InvalidValues___init : Addr
  fd_InvalidValues___init : FuncData
  F_InvalidValues___init : FunD K "__init__" "InvalidValues.__init__" (defArgs s_InvalidValues___init) (defBody s_InvalidValues___init) (defScope s_InvalidValues___init) [.non] [] a_InvalidValues___init fd_InvalidValues___init
  a_InvalidCell___init : Addr
  fd_InvalidCell___init : FuncData
  F_InvalidCell___init : FunD K "__init__" "InvalidCell.__init__" (defArgs s_InvalidCell___init) (defBody s_InvalidCell___init) (defScope s_InvalidCell___init) [.non] [] a_InvalidCell___init fd_InvalidCell___init
  a_InvalidSides___init : Addr
  fd_InvalidSides___init : FuncData
  F_InvalidSides___init : FunD K "__init__" "InvalidSides.__init__" (defArgs s_InvalidSides___init) (defBody s_InvalidSides___init) (defScope s_InvalidSides___init) [.non] [] a_InvalidSides___init fd_InvalidSides___init
  a_InvalidTable___init : Addr
  fd_InvalidTable___init : FuncData
  F_InvalidTable___init : FunD K "__init__" "InvalidTable.__init__" (defArgs s_InvalidTable___init) (defBody s_InvalidTable___init) (defScope s_InvalidTable___init) [.non] [] a_InvalidTable___init fd_InvalidTable___init
  a_InvalidWalk___init : Addr
  fd_InvalidWalk___init : FuncData
  F_InvalidWalk___init : FunD K "__init__" "InvalidWalk.__init__" (defArgs s_InvalidWalk___init) (defBody s_InvalidWalk___init) (defScope s_InvalidWalk___init) [.non] [] a_InvalidWalk___init fd_InvalidWalk___init
  a_NoRoom___init : Addr
  fd_NoRoom___init : FuncData
  F_NoRoom___init : FunD K "__init__" "NoRoom.__init__" (defArgs s_NoRoom___init) (defBody s_NoRoom___init) (defScope s_NoRoom___init) [.non] [] a_NoRoom___init fd_NoRoom___init
  a_law_classes : Addr
  fd_law_classes : FuncData
  F_law_classes : Fun K "_law_classes" "_law_classes" s_law_classes a_law_classes fd_law_classes
  m__law_classes : mg "_law_classes" = some (.ref a_law_classes)
  a_law_fields : Addr
  fd_law_fields : FuncData
  F_law_fields : Fun K "_law_fields" "_law_fields" s_law_fields a_law_fields fd_law_fields
  m__law_fields : mg "_law_fields" = some (.ref a_law_fields)
  a_law_placed : Addr
  fd_law_placed : FuncData
  F_law_placed : Fun K "_law_placed" "_law_placed" s_law_placed a_law_placed fd_law_placed
  m__law_placed : mg "_law_placed" = some (.ref a_law_placed)
  a_law_thing : Addr
  fd_law_thing : FuncData
  F_law_thing : Fun K "_law_thing" "_law_thing" s_law_thing a_law_thing fd_law_thing
  m__law_thing : mg "_law_thing" = some (.ref a_law_thing)
  a_law_made : Addr
  fd_law_made : FuncData
  F_law_made : Fun K "_law_made" "_law_made" s_law_made a_law_made fd_law_made
  m__law_made : mg "_law_made" = some (.ref a_law_made)
  a_law_by_name : Addr
  fd_law_by_name : FuncData
  F_law_by_name : Fun K "_law_by_name" "_law_by_name" s_law_by_name a_law_by_name fd_law_by_name
  m__law_by_name : mg "_law_by_name" = some (.ref a_law_by_name)
  a_law : Addr
  fd_law : FuncData
  F_law : Fun K "law" "law" s_law a_law fd_law
  m_law : mg "law" = some (.ref a_law)
  a_CellError : Addr
  m_CellError : mg "CellError" = some (.ref a_CellError)
  x_CellError : PySem.W.excIn K a_CellError [.type "ValueError", .type "Exception", .type "BaseException", .type "object"] "ValueError.__new__" = true
  kx_CellError : PySem.W.keepIn K (.ref a_CellError) = true
  ec_CellError : ExcC K a_CellError
  cr_CellError : ClX.CRead K a_CellError (.type "type")
  vi_CellError : PySem.W.findCls K (.ref a_CellError) (.type "type") "__init__" = some (.val (.builtin "ValueError.__init__"))
  a_InvalidCell : Addr
  m_InvalidCell : mg "InvalidCell" = some (.ref a_InvalidCell)
  e_InvalidCell : ErrCls K a_InvalidCell a_InvalidCell___init "value"
  a_InvalidForm : Addr
  m_InvalidForm : mg "InvalidForm" = some (.ref a_InvalidForm)
  e_InvalidForm : ErrCls K a_InvalidForm a_InvalidForm___init "value"
  a_InvalidLetter : Addr
  m_InvalidLetter : mg "InvalidLetter" = some (.ref a_InvalidLetter)
  e_InvalidLetter : ErrCls K a_InvalidLetter a_InvalidLetter___init "value"
  a_InvalidLoops : Addr
  m_InvalidLoops : mg "InvalidLoops" = some (.ref a_InvalidLoops)
  e_InvalidLoops : ErrCls K a_InvalidLoops a_InvalidLoops___init "value"
  a_InvalidNumber : Addr
  m_InvalidNumber : mg "InvalidNumber" = some (.ref a_InvalidNumber)
  e_InvalidNumber : ErrCls K a_InvalidNumber a_InvalidNumber___init "value"
  a_InvalidShape : Addr
  m_InvalidShape : mg "InvalidShape" = some (.ref a_InvalidShape)
  e_InvalidShape : ErrCls K a_InvalidShape a_InvalidShape___init "value"
  a_InvalidSides : Addr
  m_InvalidSides : mg "InvalidSides" = some (.ref a_InvalidSides)
  e_InvalidSides : ErrCls K a_InvalidSides a_InvalidSides___init "value"
  a_InvalidTable : Addr
  m_InvalidTable : mg "InvalidTable" = some (.ref a_InvalidTable)
  e_InvalidTable : ErrCls K a_InvalidTable a_InvalidTable___init "value"
  a_InvalidText : Addr
  m_InvalidText : mg "InvalidText" = some (.ref a_InvalidText)
  e_InvalidText : ErrCls K a_InvalidText a_InvalidText___init "value"
  a_InvalidValues : Addr
  m_InvalidValues : mg "InvalidValues" = some (.ref a_InvalidValues)
  e_InvalidValues : ErrCls K a_InvalidValues a_InvalidValues___init "value"
  a_InvalidWalk : Addr
  m_InvalidWalk : mg "InvalidWalk" = some (.ref a_InvalidWalk)
  e_InvalidWalk : ErrCls K a_InvalidWalk a_InvalidWalk___init "value"
  a_MismatchedShapes : Addr
  m_MismatchedShapes : mg "MismatchedShapes" = some (.ref a_MismatchedShapes)
  x_MismatchedShapes : PySem.W.excIn K a_MismatchedShapes [.type "ValueError", .type "Exception", .type "BaseException", .type "object"] "ValueError.__new__" = true
  kx_MismatchedShapes : PySem.W.keepIn K (.ref a_MismatchedShapes) = true
  ec_MismatchedShapes : ExcC K a_MismatchedShapes
  a_NoRoom : Addr
  m_NoRoom : mg "NoRoom" = some (.ref a_NoRoom)
  e_NoRoom : ErrCls K a_NoRoom a_NoRoom___init "place"
  a_NothingToUndo : Addr
  m_NothingToUndo : mg "NothingToUndo" = some (.ref a_NothingToUndo)
  x_NothingToUndo : PySem.W.excIn K a_NothingToUndo [.type "ValueError", .type "Exception", .type "BaseException", .type "object"] "ValueError.__new__" = true
  kx_NothingToUndo : PySem.W.keepIn K (.ref a_NothingToUndo) = true
  ec_NothingToUndo : ExcC K a_NothingToUndo
  a_SharedPlaces : Addr
  m_SharedPlaces : mg "SharedPlaces" = some (.ref a_SharedPlaces)
  x_SharedPlaces : PySem.W.excIn K a_SharedPlaces [.type "ValueError", .type "Exception", .type "BaseException", .type "object"] "ValueError.__new__" = true
  kx_SharedPlaces : PySem.W.keepIn K (.ref a_SharedPlaces) = true
  ec_SharedPlaces : ExcC K a_SharedPlaces
  a_ShortLoop : Addr
  m_ShortLoop : mg "ShortLoop" = some (.ref a_ShortLoop)
  e_ShortLoop : ErrCls K a_ShortLoop a_ShortLoop___init "name"
  n_ValueError : mg "ValueError" = none
  n_enumerate : mg "enumerate" = none
  n_int : mg "int" = none
  n_isinstance : mg "isinstance" = none
  n_len : mg "len" = none
  n_list : mg "list" = none
  n_max : mg "max" = none
  n_range : mg "range" = none
  n_repr : mg "repr" = none
  n_sum : mg "sum" = none
  kt : kitTab K [a_InvalidText, a_InvalidForm, a_InvalidLetter, a_InvalidNumber, a_InvalidLoops, a_InvalidShape, a_InvalidValues, a_InvalidCell, a_InvalidSides, a_InvalidTable, a_InvalidWalk, a_ShortLoop, a_NoRoom, a_MismatchedShapes, a_SharedPlaces, a_NothingToUndo] a_CellError = true
/-- the error classes in the order of the law -/
def Txt.errs {K : PySem.W.Frag} {mg : Str → Option Value} (T : Txt K mg) : List Addr := [T.a_InvalidText, T.a_InvalidForm, T.a_InvalidLetter, T.a_InvalidNumber, T.a_InvalidLoops, T.a_InvalidShape, T.a_InvalidValues, T.a_InvalidCell, T.a_InvalidSides, T.a_InvalidTable, T.a_InvalidWalk, T.a_ShortLoop, T.a_NoRoom, T.a_MismatchedShapes, T.a_SharedPlaces, T.a_NothingToUndo]
theorem Txt.ecs {K : PySem.W.Frag} {mg : Str → Option Value} (T : Txt K mg) {i : Nat} {D : Addr} (h : (T.errs ++ [T.a_CellError])[i]? = some D) : ExcC K D := by
  match i, h with
  | 0, h => injection h with h; subst h; exact T.e_InvalidText.ec
  | 1, h => injection h with h; subst h; exact T.e_InvalidForm.ec
  | 2, h => injection h with h; subst h; exact T.e_InvalidLetter.ec
  | 3, h => injection h with h; subst h; exact T.e_InvalidNumber.ec
  | 4, h => injection h with h; subst h; exact T.e_InvalidLoops.ec
  | 5, h => injection h with h; subst h; exact T.e_InvalidShape.ec
  | 6, h => injection h with h; subst h; exact T.e_InvalidValues.ec
  | 7, h => injection h with h; subst h; exact T.e_InvalidCell.ec
  | 8, h => injection h with h; subst h; exact T.e_InvalidSides.ec
  | 9, h => injection h with h; subst h; exact T.e_InvalidTable.ec
  | 10, h => injection h with h; subst h; exact T.e_InvalidWalk.ec
  | 11, h => injection h with h; subst h; exact T.e_ShortLoop.ec
  | 12, h => injection h with h; subst h; exact T.e_NoRoom.ec
  | 13, h => injection h with h; subst h; exact T.ec_MismatchedShapes
  | 14, h => injection h with h; subst h; exact T.ec_SharedPlaces
  | 15, h => injection h with h; subst h; exact T.ec_NothingToUndo
  | 16, h => injection h with h; subst h; exact T.ec_CellError
  | n + 17, h => injection h
def errFlds : List Str := ["value", "value", "value", "value", "value", "value", "value", "value", "value", "value", "value", "name", "place"]
theorem Txt.exf {K : PySem.W.Frag} {mg : Str → Option Value} (T : Txt K mg) {i : Nat} {D : Addr} {f : Str} (h : T.errs[i]? = some D) (g : errFlds[i]? = some f) : XfC K D ∧ PySem.W.findIn K (.ref D) f = some none := by
  match i, h, g with
  | 0, h, g => injection h with h; injection g with g; subst h; subst g; exact ⟨T.e_InvalidText.xf, T.e_InvalidText.no⟩
  | 1, h, g => injection h with h; injection g with g; subst h; subst g; exact ⟨T.e_InvalidForm.xf, T.e_InvalidForm.no⟩
  | 2, h, g => injection h with h; injection g with g; subst h; subst g; exact ⟨T.e_InvalidLetter.xf, T.e_InvalidLetter.no⟩
  | 3, h, g => injection h with h; injection g with g; subst h; subst g; exact ⟨T.e_InvalidNumber.xf, T.e_InvalidNumber.no⟩
  | 4, h, g => injection h with h; injection g with g; subst h; subst g; exact ⟨T.e_InvalidLoops.xf, T.e_InvalidLoops.no⟩
  | 5, h, g => injection h with h; injection g with g; subst h; subst g; exact ⟨T.e_InvalidShape.xf, T.e_InvalidShape.no⟩
  | 6, h, g => injection h with h; injection g with g; subst h; subst g; exact ⟨T.e_InvalidValues.xf, T.e_InvalidValues.no⟩
  | 7, h, g => injection h with h; injection g with g; subst h; subst g; exact ⟨T.e_InvalidCell.xf, T.e_InvalidCell.no⟩
  | 8, h, g => injection h with h; injection g with g; subst h; subst g; exact ⟨T.e_InvalidSides.xf, T.e_InvalidSides.no⟩
  | 9, h, g => injection h with h; injection g with g; subst h; subst g; exact ⟨T.e_InvalidTable.xf, T.e_InvalidTable.no⟩
  | 10, h, g => injection h with h; injection g with g; subst h; subst g; exact ⟨T.e_InvalidWalk.xf, T.e_InvalidWalk.no⟩
  | 11, h, g => injection h with h; injection g with g; subst h; subst g; exact ⟨T.e_ShortLoop.xf, T.e_ShortLoop.no⟩
  | 12, h, g => injection h with h; injection g with g; subst h; subst g; exact ⟨T.e_NoRoom.xf, T.e_NoRoom.no⟩
  | n + 13, _, g => injection g
variable {P : Program} {w : World} {K : PySem.W.Frag} {mg : Str → Option Value} {base : Heap}
theorem b_law_classes (T : Txt K mg) : Binds K T.fd_law_classes ["_law_error"] [] := T.F_law_classes.binds (ps := ["_law_error"]) fun _ _ _ _ _ _ us hl => match us, hl with | [_], _ => rfl
theorem b_law_fields (T : Txt K mg) : Binds K T.fd_law_fields ["_law_errors"] [] := T.F_law_fields.binds (ps := ["_law_errors"]) fun _ _ _ _ _ _ us hl => match us, hl with | [_], _ => rfl
theorem b_law_placed (T : Txt K mg) : Binds K T.fd_law_placed ["_law_errors"] [] := T.F_law_placed.binds (ps := ["_law_errors"]) fun _ _ _ _ _ _ us hl => match us, hl with | [_], _ => rfl
theorem b_law_thing (T : Txt K mg) : Binds K T.fd_law_thing ["_law_cell", "_law_at"] [] := T.F_law_thing.binds (ps := ["_law_cell", "_law_at"]) fun _ _ _ _ _ _ us hl => match us, hl with | [_, _], _ => rfl
theorem b_law_made (T : Txt K mg) : Binds K T.fd_law_made ["_law_thing_here"] [] := T.F_law_made.binds (ps := ["_law_thing_here"]) fun _ _ _ _ _ _ us hl => match us, hl with | [_], _ => rfl
theorem b_law_by_name (T : Txt K mg) : Binds K T.fd_law_by_name ["_law_thing_here"] [] := T.F_law_by_name.binds (ps := ["_law_thing_here"]) fun _ _ _ _ _ _ us hl => match us, hl with | [_], _ => rfl
theorem b_law (T : Txt K mg) : Binds K T.fd_law ["_law_script"] [] := T.F_law.binds (ps := ["_law_script"]) fun _ _ _ _ _ _ us hl => match us, hl with | [_], _ => rfl
theorem bd_InvalidCell___init_1 (T : Txt K mg) : ∃ ds, Vals ([.non] : List V) ds ∧ Binds K T.fd_InvalidCell___init ["self", "value"] ds :=
  T.F_InvalidCell___init.binds1 1 0 (by simp) (by decide) fun _ _ _ _ _ _ _ us its h1 h2 => match us, its, h1, h2 with | [_], [_], _, _ => ⟨_, by rfl, rfl⟩
theorem bd_InvalidCell___init_2 (T : Txt K mg) : ∃ ds, Vals ([] : List V) ds ∧ Binds K T.fd_InvalidCell___init ["self", "value"] ds :=
  T.F_InvalidCell___init.binds1 2 1 (by simp) (by decide) fun _ _ _ _ _ _ _ us its h1 h2 => match us, its, h1, h2 with | [_, _], [_], _, _ => ⟨_, by rfl, rfl⟩
theorem bd_InvalidForm___init_1 (T : Txt K mg) : ∃ ds, Vals ([.non] : List V) ds ∧ Binds K T.fd_InvalidForm___init ["self", "value"] ds :=
  T.F_InvalidForm___init.binds1 1 0 (by simp) (by decide) fun _ _ _ _ _ _ _ us its h1 h2 => match us, its, h1, h2 with | [_], [_], _, _ => ⟨_, by rfl, rfl⟩
theorem bd_InvalidForm___init_2 (T : Txt K mg) : ∃ ds, Vals ([] : List V) ds ∧ Binds K T.fd_InvalidForm___init ["self", "value"] ds :=
  T.F_InvalidForm___init.binds1 2 1 (by simp) (by decide) fun _ _ _ _ _ _ _ us its h1 h2 => match us, its, h1, h2 with | [_, _], [_], _, _ => ⟨_, by rfl, rfl⟩
theorem bd_InvalidLetter___init_1 (T : Txt K mg) : ∃ ds, Vals ([.non] : List V) ds ∧ Binds K T.fd_InvalidLetter___init ["self", "value"] ds :=
  T.F_InvalidLetter___init.binds1 1 0 (by simp) (by decide) fun _ _ _ _ _ _ _ us its h1 h2 => match us, its, h1, h2 with | [_], [_], _, _ => ⟨_, by rfl, rfl⟩
theorem bd_InvalidLetter___init_2 (T : Txt K mg) : ∃ ds, Vals ([] : List V) ds ∧ Binds K T.fd_InvalidLetter___init ["self", "value"] ds :=
  T.F_InvalidLetter___init.binds1 2 1 (by simp) (by decide) fun _ _ _ _ _ _ _ us its h1 h2 => match us, its, h1, h2 with | [_, _], [_], _, _ => ⟨_, by rfl, rfl⟩
theorem bd_InvalidLoops___init_1 (T : Txt K mg) : ∃ ds, Vals ([.non] : List V) ds ∧ Binds K T.fd_InvalidLoops___init ["self", "value"] ds :=
  T.F_InvalidLoops___init.binds1 1 0 (by simp) (by decide) fun _ _ _ _ _ _ _ us its h1 h2 => match us, its, h1, h2 with | [_], [_], _, _ => ⟨_, by rfl, rfl⟩
theorem bd_InvalidLoops___init_2 (T : Txt K mg) : ∃ ds, Vals ([] : List V) ds ∧ Binds K T.fd_InvalidLoops___init ["self", "value"] ds :=
  T.F_InvalidLoops___init.binds1 2 1 (by simp) (by decide) fun _ _ _ _ _ _ _ us its h1 h2 => match us, its, h1, h2 with | [_, _], [_], _, _ => ⟨_, by rfl, rfl⟩
theorem bd_InvalidNumber___init_1 (T : Txt K mg) : ∃ ds, Vals ([.non] : List V) ds ∧ Binds K T.fd_InvalidNumber___init ["self", "value"] ds :=
  T.F_InvalidNumber___init.binds1 1 0 (by simp) (by decide) fun _ _ _ _ _ _ _ us its h1 h2 => match us, its, h1, h2 with | [_], [_], _, _ => ⟨_, by rfl, rfl⟩
theorem bd_InvalidNumber___init_2 (T : Txt K mg) : ∃ ds, Vals ([] : List V) ds ∧ Binds K T.fd_InvalidNumber___init ["self", "value"] ds :=
  T.F_InvalidNumber___init.binds1 2 1 (by simp) (by decide) fun _ _ _ _ _ _ _ us its h1 h2 => match us, its, h1, h2 with | [_, _], [_], _, _ => ⟨_, by rfl, rfl⟩
theorem bd_InvalidShape___init_1 (T : Txt K mg) : ∃ ds, Vals ([.non] : List V) ds ∧ Binds K T.fd_InvalidShape___init ["self", "value"] ds :=
  T.F_InvalidShape___init.binds1 1 0 (by simp) (by decide) fun _ _ _ _ _ _ _ us its h1 h2 => match us, its, h1, h2 with | [_], [_], _, _ => ⟨_, by rfl, rfl⟩
theorem bd_InvalidShape___init_2 (T : Txt K mg) : ∃ ds, Vals ([] : List V) ds ∧ Binds K T.fd_InvalidShape___init ["self", "value"] ds :=
  T.F_InvalidShape___init.binds1 2 1 (by simp) (by decide) fun _ _ _ _ _ _ _ us its h1 h2 => match us, its, h1, h2 with | [_, _], [_], _, _ => ⟨_, by rfl, rfl⟩
theorem bd_InvalidSides___init_1 (T : Txt K mg) : ∃ ds, Vals ([.non] : List V) ds ∧ Binds K T.fd_InvalidSides___init ["self", "value"] ds :=
  T.F_InvalidSides___init.binds1 1 0 (by simp) (by decide) fun _ _ _ _ _ _ _ us its h1 h2 => match us, its, h1, h2 with | [_], [_], _, _ => ⟨_, by rfl, rfl⟩
theorem bd_InvalidSides___init_2 (T : Txt K mg) : ∃ ds, Vals ([] : List V) ds ∧ Binds K T.fd_InvalidSides___init ["self", "value"] ds :=
  T.F_InvalidSides___init.binds1 2 1 (by simp) (by decide) fun _ _ _ _ _ _ _ us its h1 h2 => match us, its, h1, h2 with | [_, _], [_], _, _ => ⟨_, by rfl, rfl⟩
theorem bd_InvalidTable___init_1 (T : Txt K mg) : ∃ ds, Vals ([.non] : List V) ds ∧ Binds K T.fd_InvalidTable___init ["self", "value"] ds :=
  T.F_InvalidTable___init.binds1 1 0 (by simp) (by decide) fun _ _ _ _ _ _ _ us its h1 h2 => match us, its, h1, h2 with | [_], [_], _, _ => ⟨_, by rfl, rfl⟩
theorem bd_InvalidTable___init_2 (T : Txt K mg) : ∃ ds, Vals ([] : List V) ds ∧ Binds K T.fd_InvalidTable___init ["self", "value"] ds :=
  T.F_InvalidTable___init.binds1 2 1 (by simp) (by decide) fun _ _ _ _ _ _ _ us its h1 h2 => match us, its, h1, h2 with | [_, _], [_], _, _ => ⟨_, by rfl, rfl⟩
theorem bd_InvalidText___init_1 (T : Txt K mg) : ∃ ds, Vals ([.non] : List V) ds ∧ Binds K T.fd_InvalidText___init ["self", "value"] ds :=
  T.F_InvalidText___init.binds1 1 0 (by simp) (by decide) fun _ _ _ _ _ _ _ us its h1 h2 => match us, its, h1, h2 with | [_], [_], _, _ => ⟨_, by rfl, rfl⟩
theorem bd_InvalidText___init_2 (T : Txt K mg) : ∃ ds, Vals ([] : List V) ds ∧ Binds K T.fd_InvalidText___init ["self", "value"] ds :=
  T.F_InvalidText___init.binds1 2 1 (by simp) (by decide) fun _ _ _ _ _ _ _ us its h1 h2 => match us, its, h1, h2 with | [_, _], [_], _, _ => ⟨_, by rfl, rfl⟩
theorem bd_InvalidValues___init_1 (T : Txt K mg) : ∃ ds, Vals ([.non] : List V) ds ∧ Binds K T.fd_InvalidValues___init ["self", "value"] ds :=
  T.F_InvalidValues___init.binds1 1 0 (by simp) (by decide) fun _ _ _ _ _ _ _ us its h1 h2 => match us, its, h1, h2 with | [_], [_], _, _ => ⟨_, by rfl, rfl⟩
theorem bd_InvalidValues___init_2 (T : Txt K mg) : ∃ ds, Vals ([] : List V) ds ∧ Binds K T.fd_InvalidValues___init ["self", "value"] ds :=
  T.F_InvalidValues___init.binds1 2 1 (by simp) (by decide) fun _ _ _ _ _ _ _ us its h1 h2 => match us, its, h1, h2 with | [_, _], [_], _, _ => ⟨_, by rfl, rfl⟩
theorem bd_InvalidWalk___init_1 (T : Txt K mg) : ∃ ds, Vals ([.non] : List V) ds ∧ Binds K T.fd_InvalidWalk___init ["self", "value"] ds :=
  T.F_InvalidWalk___init.binds1 1 0 (by simp) (by decide) fun _ _ _ _ _ _ _ us its h1 h2 => match us, its, h1, h2 with | [_], [_], _, _ => ⟨_, by rfl, rfl⟩
theorem bd_InvalidWalk___init_2 (T : Txt K mg) : ∃ ds, Vals ([] : List V) ds ∧ Binds K T.fd_InvalidWalk___init ["self", "value"] ds :=
  T.F_InvalidWalk___init.binds1 2 1 (by simp) (by decide) fun _ _ _ _ _ _ _ us its h1 h2 => match us, its, h1, h2 with | [_, _], [_], _, _ => ⟨_, by rfl, rfl⟩
theorem bd_NoRoom___init_1 (T : Txt K mg) : ∃ ds, Vals ([.non] : List V) ds ∧ Binds K T.fd_NoRoom___init ["self", "place"] ds :=
  T.F_NoRoom___init.binds1 1 0 (by simp) (by decide) fun _ _ _ _ _ _ _ us its h1 h2 => match us, its, h1, h2 with | [_], [_], _, _ => ⟨_, by rfl, rfl⟩
theorem bd_NoRoom___init_2 (T : Txt K mg) : ∃ ds, Vals ([] : List V) ds ∧ Binds K T.fd_NoRoom___init ["self", "place"] ds :=
  T.F_NoRoom___init.binds1 2 1 (by simp) (by decide) fun _ _ _ _ _ _ _ us its h1 h2 => match us, its, h1, h2 with | [_, _], [_], _, _ => ⟨_, by rfl, rfl⟩
theorem bd_ShortLoop___init_1 (T : Txt K mg) : ∃ ds, Vals ([.non] : List V) ds ∧ Binds K T.fd_ShortLoop___init ["self", "name"] ds :=
  T.F_ShortLoop___init.binds1 1 0 (by simp) (by decide) fun _ _ _ _ _ _ _ us its h1 h2 => match us, its, h1, h2 with | [_], [_], _, _ => ⟨_, by rfl, rfl⟩
theorem bd_ShortLoop___init_2 (T : Txt K mg) : ∃ ds, Vals ([] : List V) ds ∧ Binds K T.fd_ShortLoop___init ["self", "name"] ds :=
  T.F_ShortLoop___init.binds1 2 1 (by simp) (by decide) fun _ _ _ _ _ _ _ us its h1 h2 => match us, its, h1, h2 with | [_, _], [_], _, _ => ⟨_, by rfl, rfl⟩
theorem kbc_InvalidText___init (T : Txt K mg) : KBn K T.fd_InvalidText___init ["self", "value"] 1 ["value"] (fun us ws => us ++ ws) (fun vs zs => vs ++ zs) := FunD.kbn T.F_InvalidText___init (by simp) (fun _ _ _ _ _ _ _ its us ws h0 h1 h2 => match its, us, ws, h0, h1, h2 with | [_], [_], [_], _, _, _ => ⟨_, by rfl, rfl⟩) fun r1 r2 => r1.append r2
theorem kbc_InvalidForm___init (T : Txt K mg) : KBn K T.fd_InvalidForm___init ["self", "value"] 1 ["value"] (fun us ws => us ++ ws) (fun vs zs => vs ++ zs) := FunD.kbn T.F_InvalidForm___init (by simp) (fun _ _ _ _ _ _ _ its us ws h0 h1 h2 => match its, us, ws, h0, h1, h2 with | [_], [_], [_], _, _, _ => ⟨_, by rfl, rfl⟩) fun r1 r2 => r1.append r2
theorem kbc_InvalidLetter___init (T : Txt K mg) : KBn K T.fd_InvalidLetter___init ["self", "value"] 1 ["value"] (fun us ws => us ++ ws) (fun vs zs => vs ++ zs) := FunD.kbn T.F_InvalidLetter___init (by simp) (fun _ _ _ _ _ _ _ its us ws h0 h1 h2 => match its, us, ws, h0, h1, h2 with | [_], [_], [_], _, _, _ => ⟨_, by rfl, rfl⟩) fun r1 r2 => r1.append r2
theorem kbc_InvalidNumber___init (T : Txt K mg) : KBn K T.fd_InvalidNumber___init ["self", "value"] 1 ["value"] (fun us ws => us ++ ws) (fun vs zs => vs ++ zs) := FunD.kbn T.F_InvalidNumber___init (by simp) (fun _ _ _ _ _ _ _ its us ws h0 h1 h2 => match its, us, ws, h0, h1, h2 with | [_], [_], [_], _, _, _ => ⟨_, by rfl, rfl⟩) fun r1 r2 => r1.append r2
theorem kbc_InvalidLoops___init (T : Txt K mg) : KBn K T.fd_InvalidLoops___init ["self", "value"] 1 ["value"] (fun us ws => us ++ ws) (fun vs zs => vs ++ zs) := FunD.kbn T.F_InvalidLoops___init (by simp) (fun _ _ _ _ _ _ _ its us ws h0 h1 h2 => match its, us, ws, h0, h1, h2 with | [_], [_], [_], _, _, _ => ⟨_, by rfl, rfl⟩) fun r1 r2 => r1.append r2
theorem kbc_ShortLoop___init (T : Txt K mg) : KBn K T.fd_ShortLoop___init ["self", "name"] 1 ["name"] (fun us ws => us ++ ws) (fun vs zs => vs ++ zs) := FunD.kbn T.F_ShortLoop___init (by simp) (fun _ _ _ _ _ _ _ its us ws h0 h1 h2 => match its, us, ws, h0, h1, h2 with | [_], [_], [_], _, _, _ => ⟨_, by rfl, rfl⟩) fun r1 r2 => r1.append r2
theorem kbc_InvalidShape___init (T : Txt K mg) : KBn K T.fd_InvalidShape___init ["self", "value"] 1 ["value"] (fun us ws => us ++ ws) (fun vs zs => vs ++ zs) := FunD.kbn T.F_InvalidShape___init (by simp) (fun _ _ _ _ _ _ _ its us ws h0 h1 h2 => match its, us, ws, h0, h1, h2 with | [_], [_], [_], _, _, _ => ⟨_, by rfl, rfl⟩) fun r1 r2 => r1.append r2
theorem kbc_InvalidValues___init (T : Txt K mg) : KBn K T.fd_InvalidValues___init ["self", "value"] 1 ["value"] (fun us ws => us ++ ws) (fun vs zs => vs ++ zs) := FunD.kbn T.F_InvalidValues___init (by simp) (fun _ _ _ _ _ _ _ its us ws h0 h1 h2 => match its, us, ws, h0, h1, h2 with | [_], [_], [_], _, _, _ => ⟨_, by rfl, rfl⟩) fun r1 r2 => r1.append r2
theorem kbc_InvalidCell___init (T : Txt K mg) : KBn K T.fd_InvalidCell___init ["self", "value"] 1 ["value"] (fun us ws => us ++ ws) (fun vs zs => vs ++ zs) := FunD.kbn T.F_InvalidCell___init (by simp) (fun _ _ _ _ _ _ _ its us ws h0 h1 h2 => match its, us, ws, h0, h1, h2 with | [_], [_], [_], _, _, _ => ⟨_, by rfl, rfl⟩) fun r1 r2 => r1.append r2
theorem kbc_InvalidSides___init (T : Txt K mg) : KBn K T.fd_InvalidSides___init ["self", "value"] 1 ["value"] (fun us ws => us ++ ws) (fun vs zs => vs ++ zs) := FunD.kbn T.F_InvalidSides___init (by simp) (fun _ _ _ _ _ _ _ its us ws h0 h1 h2 => match its, us, ws, h0, h1, h2 with | [_], [_], [_], _, _, _ => ⟨_, by rfl, rfl⟩) fun r1 r2 => r1.append r2
theorem kbc_InvalidTable___init (T : Txt K mg) : KBn K T.fd_InvalidTable___init ["self", "value"] 1 ["value"] (fun us ws => us ++ ws) (fun vs zs => vs ++ zs) := FunD.kbn T.F_InvalidTable___init (by simp) (fun _ _ _ _ _ _ _ its us ws h0 h1 h2 => match its, us, ws, h0, h1, h2 with | [_], [_], [_], _, _, _ => ⟨_, by rfl, rfl⟩) fun r1 r2 => r1.append r2
theorem kbc_InvalidWalk___init (T : Txt K mg) : KBn K T.fd_InvalidWalk___init ["self", "value"] 1 ["value"] (fun us ws => us ++ ws) (fun vs zs => vs ++ zs) := FunD.kbn T.F_InvalidWalk___init (by simp) (fun _ _ _ _ _ _ _ its us ws h0 h1 h2 => match its, us, ws, h0, h1, h2 with | [_], [_], [_], _, _, _ => ⟨_, by rfl, rfl⟩) fun r1 r2 => r1.append r2
theorem kbc_NoRoom___init (T : Txt K mg) : KBn K T.fd_NoRoom___init ["self", "place"] 1 ["place"] (fun us ws => us ++ ws) (fun vs zs => vs ++ zs) := FunD.kbn T.F_NoRoom___init (by simp) (fun _ _ _ _ _ _ _ its us ws h0 h1 h2 => match its, us, ws, h0, h1, h2 with | [_], [_], [_], _, _, _ => ⟨_, by rfl, rfl⟩) fun r1 r2 => r1.append r2
end CP
open CP L2 in
local macro_rules | `(tactic| walk_at "at") => `(tactic| first
  | assumption
  | (refine CP.Same.to (by assumption) ?_; walk_at "at")
  | (refine CP.SB.to (by assumption) ?ne ?_; (case ne => walk_at "ne"); walk_at "at"))
open CP L2 in
local macro_rules | `(tactic| walk_at "ne") => `(tactic| first
  | assumption
  | (refine Ne.symm ?_; assumption)
  | (refine L2.ne_of_none (o := ?o) ?h1 (by assumption); (case h1 => walk_at "at"))
  | (refine Ne.symm (L2.ne_of_none (o := ?o) ?h1 (by assumption)); (case h1 => walk_at "at")))
open CP L2 in
local macro_rules | `(tactic| walk_at "sm") => `(tactic| first
  | assumption
  | exact L2.Same.refl _
  | (refine L2.Same.trans ?_ (by assumption); walk_at "sm")
  | (refine CP.Same.sb ?s ?n (by assumption); (case s => walk_at "sm"); (case n => walk_at "nn")))
open CP L2 in
local macro_rules | `(tactic| walk_at "nn") => `(tactic| first
  | assumption
  | (refine L2.Same.free ?s (by assumption); (case s => walk_at "sm"))
  | (refine CP.SB.free (by assumption) ?h ?n; (case h => walk_at "nn"); (case n => walk_at "ne")))
open CP L2 in
local macro_rules | `(tactic| walk_at "sq") => `(tactic| first
  | assumption
  | (refine L2.SqL.of ?_; walk_at "at")
  | (refine L2.SqT.of ?_; walk_at "at")
  | (refine L2.Same.seq (by assumption) ?_; walk_at "sq"))
open CP L2 in
local macro_rules | `(tactic| walk_at "side") => `(tactic| first
  | assumption
  | decide
  | (with_reducible refine CP.mul_ok ?_; omega)
  | (with_reducible refine CP.mul_okN ?_; omega)
  | (with_reducible refine CP.div_ok ?_; omega)
  | (show (0 : Int) < _; omega)
  | omega)
open CP L2 in
local macro_rules | `(tactic| walk_at "st") => `(tactic| simp only [L2.start, List.map_cons, List.map_nil, List.length_cons, List.length_nil, Nat.reduceAdd, Nat.reduceSub, List.replicate_succ, List.replicate_zero, List.cons_append, List.nil_append, List.append_nil])
open CP L2 in
local macro_rules | `(tactic| walk_at "s") => `(tactic| first
  | with_reducible refine CP.r_seq ?_
  | with_reducible refine CP.r_asg ?_
  | (with_reducible refine CP.r_name ?_; dsimp only [List.set_cons_zero, List.set_cons_succ])
  | with_reducible refine CP.r_var rfl ?_
  | with_reducible refine CP.r_c ?_
  | with_reducible refine CP.r_op ?_
  | with_reducible refine CP.r_I0 ?_
  | (with_reducible refine CP.r_I ?c ?_; (case c => walk_at "side"))
  | with_reducible refine CP.r_eqI ?_
  | with_reducible refine CP.r_neI ?_
  | with_reducible refine CP.r_test ?_
  | with_reducible refine CP.r_tB ?_
  | with_reducible refine CP.r_bl ?_
  | with_reducible refine CP.r_ifS ?_
  | with_reducible refine CP.if_t ?_
  | with_reducible refine CP.if_f ?_
  | with_reducible refine CP.if_nt ?_
  | with_reducible refine CP.if_nf ?_
  | with_reducible refine CP.r_cons ?_
  | with_reducible refine CP.r_nil ?_
  | with_reducible refine CP.r_call ?_
  | with_reducible refine CP.r_cb ?_
  | with_reducible refine CP.r_ret ?_
  | (with_reducible refine CP.r_par ?_)
  | (with_reducible refine CP.r_two ?_; dsimp only [List.set_cons_zero, List.set_cons_succ])
  | with_reducible refine CP.r_next ?_
  | with_reducible refine CP.r_and ?_
  | with_reducible refine CP.r_or ?_
  | with_reducible refine CP.r_not ?_
  | with_reducible refine CP.r_for ?_
  | with_reducible refine CP.r_iTup ?_
  | with_reducible refine CP.r_iList ?_
  | with_reducible refine CP.r_iRng1 ?_
  | (with_reducible refine CP.r_rng ?a ?b ?_; (case a => omega); (case b => omega))
  | with_reducible refine CP.r_tup ?_
  | with_reducible refine CP.r_lst ?_
  | with_reducible refine CP.r_dnewK ?_
  | (with_reducible refine CP.r_newO ?_; intro _ _ _ _ _)
  | (with_reducible refine CP.r_mk (by first | exact Nat.zero_le _ | (simp only [List.length_cons, List.length_nil, Nat.reduceAdd]; decide) | omega) ?_; intro _ _ _ _ _)
  | (with_reducible refine CP.r_len (ys := ?y) ?h ?_; (case h => walk_at "sq"))
  | (with_reducible refine CP.r_lenT (ys := ?y) ?h ?_; (case h => walk_at "sq"))
  | (with_reducible refine CP.r_list (ys := ?y) ?h ?_; (case h => walk_at "sq"); intro _ _ _ _ _)
  | with_reducible refine CP.r_max2 ?_
  | with_reducible refine CP.r_min2 ?_
  | with_reducible refine CP.r_abs ?_
  | with_reducible refine CP.r_int ?_
  | with_reducible refine CP.r_bits ?_
  | with_reducible refine CP.r_drop ?_
  | with_reducible refine CP.r_bm ?_
  | with_reducible refine CP.r_bm0 ?_
  | with_reducible refine CP.r_sl ?_
  | with_reducible refine CP.r_noPart ?_
  | with_reducible refine CP.r_part ?_
  | with_reducible refine CP.r_gsub ?_
  | (with_reducible refine CP.r_slL (xs := ?x) ?h ?_; (case h => walk_at "sq"); intro _ _ _ _ _)
  | (with_reducible refine CP.r_cat (xs := ?x) (ys := ?y) ?h ?h2 ?z ?_; (case h => walk_at "at"); (case h2 => walk_at "at"); (case z => first | omega | (simp only [List.length_map, List.length_cons, List.length_nil]; omega)); intro _ _ _ _ _)
  | with_reducible refine CP.r_lc ?_
  | (with_reducible refine CP.r_gtup (xs := ?x) ?h ?l ?_; (case h => walk_at "sq"); (case l => simp only [List.length_cons, List.length_nil, Nat.reduceAdd]))
  | with_reducible refine CP.r_gcons ?_
  | with_reducible refine CP.r_iRng2 ?_
  | (with_reducible refine CP.r_rng2 ?a ?_; (case a => omega))
  | with_reducible refine CP.r_neB ?_
  | with_reducible refine CP.r_eqB ?_
  | with_reducible refine CP.r_dget2 ?_
  | with_reducible refine CP.r_sdput ?_
  | (with_reducible refine CP.r_disp1 ?_; intro _ _ _ _ _)
  | with_reducible refine CP.r_gnil ?_
  | with_reducible refine CP.r_callW ?_
  | with_reducible refine CP.r_callD ?_
  | with_reducible refine CP.r_retN ?_
  | with_reducible refine CP.r_andV ?_
  | with_reducible refine CP.r_orV ?_
  | with_reducible refine CP.r_notV ?_
  | (with_reducible refine CP.r_isi (n := ?n) ?t ?c ?_; (case t => first | assumption | exact CP.tk_int | exact CP.tk_bl | exact CP.tk_non | exact CP.tk_str); (case c => decide))
  | with_reducible refine CP.r_ifE ?_)
open CP L2 in
local macro_rules | `(tactic| walk_at "d") => `(tactic| first
  | (with_reducible refine CP.r_name ?_; dsimp only [L2.wipe, List.set_cons_zero, List.set_cons_succ])
  | with_reducible refine CP.r_chain ?_
  | with_reducible refine CP.r_eqXS ?_
  | with_reducible refine CP.r_neXS ?_
  | with_reducible refine CP.r_eqXI ?_
  | with_reducible refine CP.r_neXI ?_
  | with_reducible refine CP.r_dc ?_
  | with_reducible refine CP.r_par3 ?_
  | with_reducible refine CP.r_iEnum ?_
  | with_reducible refine CP.r_makeK ?_
  | with_reducible refine CP.r_iKeys ?_
  | with_reducible refine CP.r_revL ?_
  | (with_reducible refine CP.r_three ?_; dsimp only [List.set_cons_zero, List.set_cons_succ])
  | with_reducible refine CP.r_notNr ?_
  | with_reducible refine CP.r_notNn ?_
  | with_reducible refine CP.r_isNr ?_
  | with_reducible refine CP.r_isNn ?_
  | with_reducible refine CP.r_lc2 ?_
  | with_reducible refine CP.r_iStr ?_
  | with_reducible refine CP.r_strx ?_
  | with_reducible refine CP.r_inS ?_
  | with_reducible refine CP.r_notInS ?_
  | with_reducible refine CP.r_tfld ?_
  | with_reducible refine CP.r_sfld ?_
  | with_reducible refine CP.r_tmake ?_
  | with_reducible refine CP.r_tmeth ?_
  | with_reducible refine CP.r_tdni ?_
  | with_reducible refine CP.r_tdin ?_
  | with_reducible refine CP.r_tdget ?_
  | (with_reducible refine CP.r_lookI (kvs := ?k) ?h ?_; (case h => walk_at "at"))
  | (with_reducible refine CP.r_lookS (kvs := ?k) ?h ?_; (case h => walk_at "at"))
  | (with_reducible refine CP.r_isD (kvs := ?k) ?h ?_; (case h => walk_at "at"))
  | (with_reducible refine CP.r_dget2I (kvs := ?k) ?h ?_; (case h => walk_at "at"))
  | (with_reducible refine CP.r_dget2S (kvs := ?k) ?h ?_; (case h => walk_at "at")))
open CP L2 in
local macro_rules | `(tactic| walk_at "w") => `(tactic| first
  | walk_at "s"
  | walk_at "d")

namespace CP
open PySem L2
section
variable {P : Program} {w : World} {K : PySem.W.Frag} {mg : Str → Option Value} {base : Heap}
/-- e is an error of the i-th class -/
def sp_law_classes (T : Txt K mg) : Sp := fun vs H Q _ => ∃ (e D : Addr) (i : Nat) (fs : List (Str × V)), vs = [.ref e] ∧ ErrK H e D fs ∧ (T.errs ++ [T.a_CellError])[i]? = some D ∧
    ∀ l H', Same H H' → SqL K H' l ((List.range 16).map fun j => V.bl (i == j)) → Q (.ref l) H'
def t_law_classes (w : World) (T : Txt K mg) : TS := tSeq (tAsg (tLst (tCons (tCB (rErrIs K) (tCons (tVar 0) (tCons (tC (.ref T.a_InvalidText)) (tNil)))) (tCons (tCB (rErrIs K) (tCons (tVar 0) (tCons (tC (.ref T.a_InvalidForm)) (tNil)))) (tCons (tCB (rErrIs K) (tCons (tVar 0) (tCons (tC (.ref T.a_InvalidLetter)) (tNil)))) (tNil))))) (gName 1)) (tSeq (tAsg (tOp rCat (tVar 1) (tLst (tCons (tCB (rErrIs K) (tCons (tVar 0) (tCons (tC (.ref T.a_InvalidNumber)) (tNil)))) (tCons (tCB (rErrIs K) (tCons (tVar 0) (tCons (tC (.ref T.a_InvalidLoops)) (tNil)))) (tCons (tCB (rErrIs K) (tCons (tVar 0) (tCons (tC (.ref T.a_InvalidShape)) (tNil)))) (tNil)))))) (gName 1)) (tSeq (tAsg (tOp rCat (tVar 1) (tLst (tCons (tCB (rErrIs K) (tCons (tVar 0) (tCons (tC (.ref T.a_InvalidValues)) (tNil)))) (tCons (tCB (rErrIs K) (tCons (tVar 0) (tCons (tC (.ref T.a_InvalidCell)) (tNil)))) (tNil))))) (gName 1)) (tSeq (tAsg (tOp rCat (tVar 1) (tLst (tCons (tCB (rErrIs K) (tCons (tVar 0) (tCons (tC (.ref T.a_InvalidSides)) (tNil)))) (tCons (tCB (rErrIs K) (tCons (tVar 0) (tCons (tC (.ref T.a_InvalidTable)) (tNil)))) (tCons (tCB (rErrIs K) (tCons (tVar 0) (tCons (tC (.ref T.a_InvalidWalk)) (tNil)))) (tNil)))))) (gName 1)) (tSeq (tAsg (tOp rCat (tVar 1) (tLst (tCons (tCB (rErrIs K) (tCons (tVar 0) (tCons (tC (.ref T.a_ShortLoop)) (tNil)))) (tCons (tCB (rErrIs K) (tCons (tVar 0) (tCons (tC (.ref T.a_NoRoom)) (tNil)))) (tCons (tCB (rErrIs K) (tCons (tVar 0) (tCons (tC (.ref T.a_MismatchedShapes)) (tNil)))) (tNil)))))) (gName 1)) (tRet (tOp rCat (tVar 1) (tLst (tCons (tCB (rErrIs K) (tCons (tVar 0) (tCons (tC (.ref T.a_SharedPlaces)) (tNil)))) (tCons (tCB (rErrIs K) (tCons (tVar 0) (tCons (tC (.ref T.a_NothingToUndo)) (tNil)))) (tNil))))))))))
theorem len_law_classes (T : Txt K mg) : ∀ (vs : List V) (H : Hp) (Q : VK) (E : XK), sp_law_classes T vs H Q E → vs.length = (["_law_error"] : List Str).length := by
  rintro vs H Q E ⟨e, D, i, fs, rfl, h⟩
  rfl
theorem rd_law_classes (T : Txt K mg) (vs : List V) (H : Hp) (Q : VK) (E : XK) (h : sp_law_classes T vs H Q E) : t_law_classes w T { nx := fun _ H' => Q .non H', rt := Q } (start ["_law_error", "_law_found"] vs) H := by
  obtain ⟨e, D, i, fs, rfl, he0, hi, q⟩ := h
  have sz : sizeLine = 16777216 := rfl
  unfold t_law_classes
  walk_at "st"
  repeat walk_at "w"
  refine ⟨e, D, fs, _, _, _, rfl, he0, T.ecs hi, .own _, kitTab.own (j := 0) T.kt hi rfl, ?_⟩
  repeat walk_at "w"
  refine ⟨e, D, fs, _, _, _, rfl, he0, T.ecs hi, .own _, kitTab.own (j := 1) T.kt hi rfl, ?_⟩
  repeat walk_at "w"
  refine ⟨e, D, fs, _, _, _, rfl, he0, T.ecs hi, .own _, kitTab.own (j := 2) T.kt hi rfl, ?_⟩
  repeat walk_at "w"
  rename_i p1 H1 n1 s1 h1
  have z1 := s1
  have he1 := he0.mono z1
  repeat walk_at "w"
  refine ⟨e, D, fs, _, _, _, rfl, he1, T.ecs hi, .own _, kitTab.own (j := 3) T.kt hi rfl, ?_⟩
  repeat walk_at "w"
  refine ⟨e, D, fs, _, _, _, rfl, he1, T.ecs hi, .own _, kitTab.own (j := 4) T.kt hi rfl, ?_⟩
  repeat walk_at "w"
  refine ⟨e, D, fs, _, _, _, rfl, he1, T.ecs hi, .own _, kitTab.own (j := 5) T.kt hi rfl, ?_⟩
  repeat walk_at "w"
  rename_i a2 A2 b2 c2 d2 p2 H2 n2 s2 h2
  have z2 := z1.trans (c2.trans s2)
  replace h2 : H2 p2 = some (.lst [V.bl (i == 0), V.bl (i == 1), V.bl (i == 2), V.bl (i == 3), V.bl (i == 4), V.bl (i == 5)]) := h2
  have he2 := he0.mono z2
  repeat walk_at "w"
  refine ⟨e, D, fs, _, _, _, rfl, he2, T.ecs hi, .own _, kitTab.own (j := 6) T.kt hi rfl, ?_⟩
  repeat walk_at "w"
  refine ⟨e, D, fs, _, _, _, rfl, he2, T.ecs hi, .own _, kitTab.own (j := 7) T.kt hi rfl, ?_⟩
  repeat walk_at "w"
  rename_i a3 A3 b3 c3 d3 p3 H3 n3 s3 h3
  have z3 := z2.trans (c3.trans s3)
  replace h3 : H3 p3 = some (.lst [V.bl (i == 0), V.bl (i == 1), V.bl (i == 2), V.bl (i == 3), V.bl (i == 4), V.bl (i == 5), V.bl (i == 6), V.bl (i == 7)]) := h3
  have he3 := he0.mono z3
  repeat walk_at "w"
  refine ⟨e, D, fs, _, _, _, rfl, he3, T.ecs hi, .own _, kitTab.own (j := 8) T.kt hi rfl, ?_⟩
  repeat walk_at "w"
  refine ⟨e, D, fs, _, _, _, rfl, he3, T.ecs hi, .own _, kitTab.own (j := 9) T.kt hi rfl, ?_⟩
  repeat walk_at "w"
  refine ⟨e, D, fs, _, _, _, rfl, he3, T.ecs hi, .own _, kitTab.own (j := 10) T.kt hi rfl, ?_⟩
  repeat walk_at "w"
  rename_i a4 A4 b4 c4 d4 p4 H4 n4 s4 h4
  have z4 := z3.trans (c4.trans s4)
  replace h4 : H4 p4 = some (.lst [V.bl (i == 0), V.bl (i == 1), V.bl (i == 2), V.bl (i == 3), V.bl (i == 4), V.bl (i == 5), V.bl (i == 6), V.bl (i == 7), V.bl (i == 8), V.bl (i == 9), V.bl (i == 10)]) := h4
  have he4 := he0.mono z4
  repeat walk_at "w"
  refine ⟨e, D, fs, _, _, _, rfl, he4, T.ecs hi, .own _, kitTab.own (j := 11) T.kt hi rfl, ?_⟩
  repeat walk_at "w"
  refine ⟨e, D, fs, _, _, _, rfl, he4, T.ecs hi, .own _, kitTab.own (j := 12) T.kt hi rfl, ?_⟩
  repeat walk_at "w"
  refine ⟨e, D, fs, _, _, _, rfl, he4, T.ecs hi, .own _, kitTab.own (j := 13) T.kt hi rfl, ?_⟩
  repeat walk_at "w"
  rename_i a5 A5 b5 c5 d5 p5 H5 n5 s5 h5
  have z5 := z4.trans (c5.trans s5)
  replace h5 : H5 p5 = some (.lst [V.bl (i == 0), V.bl (i == 1), V.bl (i == 2), V.bl (i == 3), V.bl (i == 4), V.bl (i == 5), V.bl (i == 6), V.bl (i == 7), V.bl (i == 8), V.bl (i == 9), V.bl (i == 10), V.bl (i == 11), V.bl (i == 12), V.bl (i == 13)]) := h5
  have he5 := he0.mono z5
  repeat walk_at "w"
  refine ⟨e, D, fs, _, _, _, rfl, he5, T.ecs hi, .own _, kitTab.own (j := 14) T.kt hi rfl, ?_⟩
  repeat walk_at "w"
  refine ⟨e, D, fs, _, _, _, rfl, he5, T.ecs hi, .own _, kitTab.own (j := 15) T.kt hi rfl, ?_⟩
  repeat walk_at "w"
  rename_i a6 A6 b6 c6 d6 p6 H6 n6 s6 h6
  have z6 := z5.trans (c6.trans s6)
  replace h6 : H6 p6 = some (.lst [V.bl (i == 0), V.bl (i == 1), V.bl (i == 2), V.bl (i == 3), V.bl (i == 4), V.bl (i == 5), V.bl (i == 6), V.bl (i == 7), V.bl (i == 8), V.bl (i == 9), V.bl (i == 10), V.bl (i == 11), V.bl (i == 12), V.bl (i == 13), V.bl (i == 14), V.bl (i == 15)]) := h6
  exact q _ _ z6 (.of h6)

theorem ok_law_classes (T : Txt K mg) : FnOk P w K mg base CX0 1 T.a_law_classes T.fd_law_classes ["_law_error"] (sp_law_classes T) :=
  T.F_law_classes.ok sc_law_classes (len_law_classes T) fun cdv A outer s H vs Q E hr h => ⟨t_law_classes w T, (pss_cons (ps_set (i := 1) sc_law_classes.nd rfl (Or.inl rfl) (pe_lst (pa_cons (pe_callB call_isErr (by rfl) T.n_isinstance (by decide +kernel) (pa_cons (pv 0) (pa_cons (pe_glob (v := .ref T.a_InvalidText) (by rfl) T.m_InvalidText rfl) pa_nil))) (pa_cons (pe_callB call_isErr (by rfl) T.n_isinstance (by decide +kernel) (pa_cons (pv 0) (pa_cons (pe_glob (v := .ref T.a_InvalidForm) (by rfl) T.m_InvalidForm rfl) pa_nil))) (pa_cons (pe_callB call_isErr (by rfl) T.n_isinstance (by decide +kernel) (pa_cons (pv 0) (pa_cons (pe_glob (v := .ref T.a_InvalidLetter) (by rfl) T.m_InvalidLetter rfl) pa_nil))) pa_nil)))))
      (pss_cons (ps_set (i := 1) sc_law_classes.nd rfl (Or.inl rfl) (pe_op op_cat (pv 1) (pe_lst (pa_cons (pe_callB call_isErr (by rfl) T.n_isinstance (by decide +kernel) (pa_cons (pv 0) (pa_cons (pe_glob (v := .ref T.a_InvalidNumber) (by rfl) T.m_InvalidNumber rfl) pa_nil))) (pa_cons (pe_callB call_isErr (by rfl) T.n_isinstance (by decide +kernel) (pa_cons (pv 0) (pa_cons (pe_glob (v := .ref T.a_InvalidLoops) (by rfl) T.m_InvalidLoops rfl) pa_nil))) (pa_cons (pe_callB call_isErr (by rfl) T.n_isinstance (by decide +kernel) (pa_cons (pv 0) (pa_cons (pe_glob (v := .ref T.a_InvalidShape) (by rfl) T.m_InvalidShape rfl) pa_nil))) pa_nil))))))
      (pss_cons (ps_set (i := 1) sc_law_classes.nd rfl (Or.inl rfl) (pe_op op_cat (pv 1) (pe_lst (pa_cons (pe_callB call_isErr (by rfl) T.n_isinstance (by decide +kernel) (pa_cons (pv 0) (pa_cons (pe_glob (v := .ref T.a_InvalidValues) (by rfl) T.m_InvalidValues rfl) pa_nil))) (pa_cons (pe_callB call_isErr (by rfl) T.n_isinstance (by decide +kernel) (pa_cons (pv 0) (pa_cons (pe_glob (v := .ref T.a_InvalidCell) (by rfl) T.m_InvalidCell rfl) pa_nil))) pa_nil)))))
      (pss_cons (ps_set (i := 1) sc_law_classes.nd rfl (Or.inl rfl) (pe_op op_cat (pv 1) (pe_lst (pa_cons (pe_callB call_isErr (by rfl) T.n_isinstance (by decide +kernel) (pa_cons (pv 0) (pa_cons (pe_glob (v := .ref T.a_InvalidSides) (by rfl) T.m_InvalidSides rfl) pa_nil))) (pa_cons (pe_callB call_isErr (by rfl) T.n_isinstance (by decide +kernel) (pa_cons (pv 0) (pa_cons (pe_glob (v := .ref T.a_InvalidTable) (by rfl) T.m_InvalidTable rfl) pa_nil))) (pa_cons (pe_callB call_isErr (by rfl) T.n_isinstance (by decide +kernel) (pa_cons (pv 0) (pa_cons (pe_glob (v := .ref T.a_InvalidWalk) (by rfl) T.m_InvalidWalk rfl) pa_nil))) pa_nil))))))
      (pss_cons (ps_set (i := 1) sc_law_classes.nd rfl (Or.inl rfl) (pe_op op_cat (pv 1) (pe_lst (pa_cons (pe_callB call_isErr (by rfl) T.n_isinstance (by decide +kernel) (pa_cons (pv 0) (pa_cons (pe_glob (v := .ref T.a_ShortLoop) (by rfl) T.m_ShortLoop rfl) pa_nil))) (pa_cons (pe_callB call_isErr (by rfl) T.n_isinstance (by decide +kernel) (pa_cons (pv 0) (pa_cons (pe_glob (v := .ref T.a_NoRoom) (by rfl) T.m_NoRoom rfl) pa_nil))) (pa_cons (pe_callB call_isErr (by rfl) T.n_isinstance (by decide +kernel) (pa_cons (pv 0) (pa_cons (pe_glob (v := .ref T.a_MismatchedShapes) (by rfl) T.m_MismatchedShapes rfl) pa_nil))) pa_nil))))))
      (pss_one (ps_ret (pe_op op_cat (pv 1) (pe_lst (pa_cons (pe_callB call_isErr (by rfl) T.n_isinstance (by decide +kernel) (pa_cons (pv 0) (pa_cons (pe_glob (v := .ref T.a_SharedPlaces) (by rfl) T.m_SharedPlaces rfl) pa_nil))) (pa_cons (pe_callB call_isErr (by rfl) T.n_isinstance (by decide +kernel) (pa_cons (pv 0) (pa_cons (pe_glob (v := .ref T.a_NothingToUndo) (by rfl) T.m_NothingToUndo rfl) pa_nil))) pa_nil))))))))))), rd_law_classes T vs H Q E h⟩
end
end CP

namespace CP
open PySem L2
section
variable {P : Program} {w : World} {K : PySem.W.Frag} {mg : Str → Option Value} {base : Heap}
def sp_law_fields (T : Txt K mg) : Sp := fun vs H Q _ => ∃ (l : Addr) (es : List Addr) (v : V), vs = [.ref l] ∧ H l = some (.lst (es.map V.ref)) ∧ Errs H (T.errs.take 13) (fldsK v) es ∧
    ∀ l' H', Same H H' → H' l' = some (.lst (List.replicate 13 v)) → Q (.ref l') H'
def t_law_fields (w : World) (T : Txt K mg) : TS := tRet (tOp rCat (tLc (iList K (tSl (rSlL K) (tVar 0) tNoPart (tPart (tC (.int 11))))) (gName 1) (tYes) (tErrF K (tVar 1) "value") [1]) (tLst (tCons (tErrF K (tOp (rIxL K) (tVar 0) (tC (.int 11))) "name") (tCons (tErrF K (tOp (rIxL K) (tVar 0) (tC (.int 12))) "place") (tNil)))))
theorem len_law_fields (T : Txt K mg) : ∀ (vs : List V) (H : Hp) (Q : VK) (E : XK), sp_law_fields T vs H Q E → vs.length = (["_law_errors"] : List Str).length := by
  rintro vs H Q E ⟨l, es, v, rfl, h⟩
  rfl
theorem rd_law_fields (T : Txt K mg) (vs : List V) (H : Hp) (Q : VK) (E : XK) (h : sp_law_fields T vs H Q E) : t_law_fields w T { nx := fun _ H' => Q .non H', rt := Q } (start ["_law_errors", "_law_error"] vs) H := by
  obtain ⟨l, es, v, rfl, hl, he, q⟩ := h
  have sz : sizeLine = 16777216 := rfl
  have le : es.length = 13 := he.1
  match es, le with
  | [e0, e1, e2, e3, e4, e5, e6, e7, e8, e9, e10, e11, e12], _ =>
  unfold t_law_fields
  walk_at "st"
  repeat walk_at "w"
  rename_i p H1 n1 s1 h1
  replace h1 : H1 p = some (.lst ([e0, e1, e2, e3, e4, e5, e6, e7, e8, e9, e10].map V.ref)) := h1
  refine ⟨p, rfl, ⟨_, .of h1⟩, fun D hD => lc_tell (β := V) (fun _ x b => x = b) (List.replicate 11 (some v)) hD (.of h1) rfl (by simp; omega) (fun _ _ _ _ _ z => z) (fun i x o H2 hx ho s2 _ N no yes => ?_) fun H2 acc s2 hacc pp => ?_⟩
  · have ilt : i < 11 := by
      have := List.getElem?_eq_some_iff.mp ho
      obtain ⟨z, _⟩ := this
      simpa using z
    have hx' : ∃ e c, x = V.ref e ∧ T.errs[i]? = some c ∧ errFlds[i]? = some "value" ∧ ErrK H e c [("value", v)] := by
      clear ho
      match i, ilt, hx with
      | 0, _, hx => cases hx; exact ⟨_, _, rfl, rfl, rfl, he.2.2 0 _ _ _ rfl rfl rfl⟩
      | 1, _, hx => cases hx; exact ⟨_, _, rfl, rfl, rfl, he.2.2 1 _ _ _ rfl rfl rfl⟩
      | 2, _, hx => cases hx; exact ⟨_, _, rfl, rfl, rfl, he.2.2 2 _ _ _ rfl rfl rfl⟩
      | 3, _, hx => cases hx; exact ⟨_, _, rfl, rfl, rfl, he.2.2 3 _ _ _ rfl rfl rfl⟩
      | 4, _, hx => cases hx; exact ⟨_, _, rfl, rfl, rfl, he.2.2 4 _ _ _ rfl rfl rfl⟩
      | 5, _, hx => cases hx; exact ⟨_, _, rfl, rfl, rfl, he.2.2 5 _ _ _ rfl rfl rfl⟩
      | 6, _, hx => cases hx; exact ⟨_, _, rfl, rfl, rfl, he.2.2 6 _ _ _ rfl rfl rfl⟩
      | 7, _, hx => cases hx; exact ⟨_, _, rfl, rfl, rfl, he.2.2 7 _ _ _ rfl rfl rfl⟩
      | 8, _, hx => cases hx; exact ⟨_, _, rfl, rfl, rfl, he.2.2 8 _ _ _ rfl rfl rfl⟩
      | 9, _, hx => cases hx; exact ⟨_, _, rfl, rfl, rfl, he.2.2 9 _ _ _ rfl rfl rfl⟩
      | 10, _, hx => cases hx; exact ⟨_, _, rfl, rfl, rfl, he.2.2 10 _ _ _ rfl rfl rfl⟩
    obtain ⟨e, c, rfl, hc, hf, hk⟩ := hx'
    obtain ⟨xf, nf⟩ := T.exf hc hf
    have ov : o = some v := by
      rw [List.getElem?_replicate, if_pos ilt] at ho
      exact (Option.some.inj ho).symm
    repeat walk_at "w"
    refine ⟨rfl, r_yes (if_t ?_)⟩
    refine r_errF ?_
    repeat walk_at "w"
    refine ⟨e, c, _, v, rfl, (hk.mono s1).mono s2, xf, nf, rfl, ?_⟩
    exact yes H2 v v ov (Same.refl _) rfl
  · have ac : acc = List.replicate 11 v := pd_eq pp
    subst ac
    have sz2 := s1.trans s2
    repeat walk_at "w"
    refine r_errF ?_
    repeat walk_at "w"
    refine r_ixL (.of (sz2 _ _ hl)) (v := V.ref e11) rfl ?_
    refine ⟨e11, _, _, v, rfl, (he.2.2 11 _ _ _ rfl rfl rfl).mono sz2, (T.exf (i := 11) rfl rfl).1, (T.exf (i := 11) rfl rfl).2, rfl, ?_⟩
    repeat walk_at "w"
    refine r_errF ?_
    repeat walk_at "w"
    refine r_ixL (.of (sz2 _ _ hl)) (v := V.ref e12) rfl ?_
    refine ⟨e12, _, _, v, rfl, (he.2.2 12 _ _ _ rfl rfl rfl).mono sz2, (T.exf (i := 12) rfl rfl).1, (T.exf (i := 12) rfl rfl).2, rfl, ?_⟩
    repeat walk_at "w"
    rename_i p3 H3 n3 s3 h3
    exact r_cat (CP.Same.to s3 hacc) h3 (by simp; omega) fun l4 H4 _ s4 h4 => q l4 H4 ((sz2.trans s3).trans s4) h4

theorem ok_law_fields (T : Txt K mg) : FnOk P w K mg base CX0 1 T.a_law_fields T.fd_law_fields ["_law_errors"] (sp_law_fields T) :=
  T.F_law_fields.ok sc_law_fields (len_law_fields T) fun cdv A outer s H vs Q E hr h => ⟨t_law_fields w T, (pss_one (ps_ret (pe_op op_cat (pe_lc (own := [("_law_error", 1)]) (g := (gName 1)) (tt := tYes) (te := tErrF K (tVar 1) "value") rfl sc_law_fields.nd (pi_list (pe_slice sl_list (pv 0) po_none (po_some pe_int))) (blkOk_by (own := [("_law_error", 1)]) (N := ["_law_errors", "_law_error"]) (sc := defScope s_law_fields) (by decide +kernel)) (fun _ _ _ _ _ => (pg_name (i := 1) sc_law_fields.nd rfl (Or.inl rfl))) (fun _ _ _ _ _ => pts_nil) (fun _ _ _ _ _ => (pe_errF (pv 1)))) (pe_lst (pa_cons (pe_errF (pe_ix ix_list (pv 0) pe_int (fun _ _ => rfl))) (pa_cons (pe_errF (pe_ix ix_list (pv 0) pe_int (fun _ _ => rfl))) pa_nil)))))), rd_law_fields T vs H Q E h⟩
end
end CP

namespace CP
open PySem L2
section
variable {P : Program} {w : World} {K : PySem.W.Frag} {mg : Str → Option Value} {base : Heap}
theorem pd_self {R : V → V → Prop} : ∀ (xs : List V), (∀ x ∈ xs, R x x) → Paired R xs xs
  | [], _ => .nil
  | x :: xs, h => .cons (h x (List.mem_cons_self ..)) (pd_self xs fun y hy => h y (List.mem_cons_of_mem _ hy))
def sp_law_placed (T : Txt K mg) : Sp := fun vs H Q _ => ∃ (l : Addr) (es : List Addr) (fs : List (List (Str × V))), vs = [.ref l] ∧ H l = some (.lst (es.map V.ref)) ∧ Errs H T.errs fs es ∧ ∀ H', Same H H' → Q (.bl true) H'
def t_law_placed (w : World) (T : Txt K mg) : TS := tSeq (tFor (iEnum K (tCons (tVar 0) (tNil))) (gTup K 2 (gCons (gName 1) (gCons (gName 2) gNil))) (tSeq (tIfS (tOr (tNot (tB (tCB (rErrIs K) (tCons (tVar 2) (tCons (tC (.ref T.a_CellError)) (tNil)))))) (tNot (tB (tCB (rErrIs K) (tCons (tVar 2) (tCons (tC (.ty "ValueError")) (tNil))))))) (tRet (tC (.bl false))) (tNext)) (tIfS (tTest (tOp (rNeX K) (tCall (sp_law_classes T) [] E0 (tCons (tVar 2) (tNil))) (tLc (iRng1 (tCons (tC (.int 16)) (tNil))) (gName 3) (tYes) (tOp rEq (tVar 3) (tVar 1)) [3]))) (tRet (tC (.bl false))) (tNext)))) (tRet (tC (.bl true)))
theorem len_law_placed (T : Txt K mg) : ∀ (vs : List V) (H : Hp) (Q : VK) (E : XK), sp_law_placed T vs H Q E → vs.length = (["_law_errors"] : List Str).length := by
  rintro vs H Q E ⟨l, es, fs, rfl, h⟩
  rfl
theorem rd_law_placed (T : Txt K mg) (vs : List V) (H : Hp) (Q : VK) (E : XK) (h : sp_law_placed T vs H Q E) : t_law_placed w T { nx := fun _ H' => Q .non H', rt := Q } (start ["_law_errors", "_law_at", "_law_error", "_law_spot"] vs) H := by
  obtain ⟨l, es, fs, rfl, hl, he, q⟩ := h
  have sz : sizeLine = 16777216 := rfl
  unfold t_law_placed
  walk_at "st"
  repeat walk_at "w"
  have le : es.length = 16 := he.1
  refine ⟨l, es.map V.ref, rfl, .of hl, for_enum (K := K) (a := l) (xs := es.map V.ref) (fun i σ H' => Same H H' ∧ ∃ x2 x3 x4, σ = [some (.ref l), x2, x3, x4]) ⟨Same.refl _, _, _, _, rfl⟩ (fun _ _ _ _ w => .of (CP.Same.to w.1 hl)) ?_ ?_⟩
  · rintro i x σ H1 tt H2 hx ⟨s1, x2, x3, x4, rfl⟩ s2 htt
    rw [List.getElem?_map] at hx
    obtain ⟨e, hei, rfl⟩ := Option.map_eq_some_iff.mp hx
    have ilt : i < es.length := (List.getElem?_eq_some_iff.mp hei).1
    have lc : T.errs.length = 16 := rfl
    have hc : T.errs[i]? = some (T.errs[i]'(by omega)) := List.getElem?_eq_getElem (by omega)
    have lf : i < fs.length := by have := he.2.1; omega
    have hf : fs[i]? = some (fs[i]'lf) := List.getElem?_eq_getElem lf
    have hk := (he.2.2 i e _ _ hei hc hf).mono (s1.trans s2)
    have hc2 : (T.errs ++ [T.a_CellError])[i]? = some (T.errs[i]'(by omega)) := by rw [List.getElem?_append_left (by omega)]; exact hc
    generalize T.errs[i]'(by omega) = c at hc hc2 hk
    generalize fs[i]'lf = f at hf hk
    repeat walk_at "w"
    refine ⟨e, c, f, _, _, _, rfl, hk, T.ecs hc2, .own _, (kitTab.top T.kt hc2).1, ?_⟩
    refine ⟨true, rfl, ?_⟩
    repeat walk_at "w"
    refine ⟨e, c, f, _, _, _, rfl, hk, T.ecs hc2, .ty _, (kitTab.top T.kt hc2).2, ?_⟩
    refine ⟨true, rfl, ?_⟩
    repeat walk_at "w"
    refine ⟨e, c, i, f, rfl, hk, hc2, fun l2 H3 s3 h3 => ?_⟩
    repeat walk_at "w"
    refine fun D hD => lc_tellR (β := V) (fun _ x b => x = b) ((List.range 16).map fun j => some (V.bl (i == j))) hD (by simp) (by simp; omega) (fun _ _ _ _ _ z => z) (fun j o H4 hj ho s4 _ N no yes => ?_) fun H4 acc s4 hacc pp => ?_
    · have jl : j < 16 := hj
      rw [List.getElem?_map, List.getElem?_range jl] at ho
      have ho' : o = some (V.bl (i == j)) := (Option.some.inj ho).symm
      repeat walk_at "w"
      refine ⟨rfl, r_yes (if_t ?_)⟩
      repeat walk_at "w"
      refine yes H4 _ _ ho' (Same.refl _) ?_
      rw [show decide ((0 : Int) + ↑j = ↑i) = (i == j) by rw [Bool.eq_iff_iff]; simp; omega]
    · have ac := pd_eq pp
      replace ac : acc = (List.range 16).map fun j => V.bl (i == j) := ac
      subst ac
      refine .inr (.inr ⟨1, l2, D, _, _, by decide, rfl, rfl, .inl ⟨L2.Same.seq s4 h3, .of hacc⟩, pd_self _ fun x hx => ?_, ?_⟩)
      · obtain ⟨j, _, rfl⟩ := List.mem_map.mp hx
        exact .inl ⟨rfl, rfl⟩
      · repeat walk_at "w"
        exact ⟨((s1.trans s2).trans s3).trans s4, _, _, _, rfl⟩
  · rintro σ H1 ⟨s1, x2, x3, x4, rfl⟩
    repeat walk_at "w"
    exact q _ s1

theorem ok_law_placed (T : Txt K mg) : FnOk P w K mg base CX0 2 T.a_law_placed T.fd_law_placed ["_law_errors"] (sp_law_placed T) :=
  T.F_law_placed.ok sc_law_placed (len_law_placed T) fun cdv A outer s H vs Q E hr h => ⟨t_law_placed w T, (pss_cons (ps_for PassesOwn.never rfl (pi_enum (by rfl) T.n_enumerate (pa_cons (pv 0) pa_nil)) (pg_tup rfl (pgs_cons (pg_name (i := 1) sc_law_placed.nd rfl (Or.inr rfl)) (pgs_cons (pg_name (i := 2) sc_law_placed.nd rfl (Or.inl rfl)) pgs_nil))) (pss_cons (ps_if (PW.pt (pw_or (pt_not (pt_val (pe_callB call_isErr (by rfl) T.n_isinstance (by decide +kernel) (pa_cons (pv 2) (pa_cons (pe_glob (v := .ref T.a_CellError) (by rfl) T.m_CellError rfl) pa_nil))))) (pw_or1 (pt_not (pt_val (pe_callB call_isErr (by rfl) T.n_isinstance (by decide +kernel) (pa_cons (pv 2) (pa_cons (pe_bltn (v := .ty "ValueError") (by rfl) T.n_ValueError (by decide +kernel) rfl) pa_nil)))))))) (pss_one (ps_ret pe_bl)) pss_nil)
      (pss_one (ps_if (pt_cmpR (op_neX hr.units) (pe_call (ok_law_classes T) (hr.mono (by decide)) (by rfl) T.m__law_classes T.F_law_classes.kp (b_law_classes T) .nil pass0 (pa_cons (pv 2) pa_nil)) (pe_lc (own := [("_law_spot", 3)]) (g := (gName 3)) (tt := tYes) (te := tOp rEq (tVar 3) (tVar 1)) rfl sc_law_placed.nd (pi_range1 (by rfl) T.n_range (pa_cons pe_int pa_nil)) (blkOk_by (own := [("_law_spot", 3)]) (N := ["_law_errors", "_law_at", "_law_error", "_law_spot"]) (sc := defScope s_law_placed) (by decide +kernel)) (fun _ _ _ _ _ => (pg_name (i := 3) sc_law_placed.nd rfl (Or.inl rfl))) (fun _ _ _ _ _ => pts_nil) (fun _ _ _ _ _ => (pe_cmpR op_eq (pv 3) (pv 1) (nomark _)))) (nomark _)) (pss_one (ps_ret pe_bl)) pss_nil))))
      (pss_one (ps_ret pe_bl))), rd_law_placed T vs H Q E h⟩
end
end CP

namespace CP
open PySem L2
section
variable {P : Program} {w : World} {K : PySem.W.Frag} {mg : Str → Option Value} {base : Heap}
theorem pow30 : CPw 10 30 := ⟨by decide, by decide, by decide +kernel⟩
theorem pow30v : (10 : Int) ^ (30 : Int).toNat = 10 ^ 30 := by decide +kernel
theorem r_dispS {K : PySem.W.Frag} {σ : St} {H : Hp} {Q : VK} {k : Str} {t : TE} {v : V} (ht : ∀ H Q, Q v H → t σ H Q) (q : ∀ D H', H D = none → Same H H' → H' D = some (.dK [(Sum.inr k, v)]) → Q (.ref D) H') : tDisp [(tC (.str k), t)] σ H Q := fun D hD => by
  refine ht _ _ ⟨upd_same, [(Sum.inr k, v)], rfl, Nat.succ_le_succ (Nat.zero_le _), ?_⟩
  refine q D _ hD (fun b o hb => ?_) upd_same
  have hne : b ≠ D := fun e => by rw [e, hD] at hb; cases hb
  rw [upd_ne hne, upd_ne hne]
  exact hb
theorem shw_int {i : Int} (h : i.natAbs < 10 ^ 30) : Shw (.int i) ∧ (PyData.int i).weight ≤ 111 := by
  have l : i.natAbs.log2 < 110 := by
    by_cases z : i.natAbs = 0
    · rw [z]; decide
    · have : i.natAbs < 2 ^ 110 := Nat.lt_trans h (by decide)
      exact (Nat.log2_lt z).mpr this
  have w : (PyData.int i).weight ≤ 111 := by
    simp only [PyData.weight]
    split <;> omega
  refine ⟨⟨?_, by simp [PyData.depth], ?_, by omega⟩, w⟩
  · simp only [PyData.showable, decide_eq_true_eq]
    omega
  · have e := int_text_length_le10 (k := 30) (a := i) (by decide) h
    have e2 : (PyData.shown (.int i)).length = (toString i).length := ofString_length _
    simp only [PyData.leavesShort, decide_eq_true_eq]
    omega
theorem shw_list {i : Int} (h : Shw (.int i) ∧ (PyData.int i).weight ≤ 111) : Shw (.list [.int i]) := by
  obtain ⟨⟨a, b, c, _⟩, d⟩ := h
  refine ⟨?_, ?_, ?_, ?_⟩
  · simp [PyData.showable, PyData.showableAll] at a ⊢; exact a
  · simp [PyData.depth, PyData.depthAll]
  · simp [PyData.leavesShort, PyData.leavesShortAll] at c ⊢; exact c
  · simp only [PyData.weight, PyData.weightAll] at d ⊢; omega
theorem shw_tup {i : Int} (h : Shw (.int i) ∧ (PyData.int i).weight ≤ 111) : Shw (.tuple [.int i, .str "a"]) := by
  obtain ⟨⟨a, b, c, _⟩, d⟩ := h
  refine ⟨?_, ?_, ?_, ?_⟩
  · simp [PyData.showable, PyData.showableAll] at a ⊢; exact a
  · simp [PyData.depth, PyData.depthAll]
  · simp [PyData.leavesShort, PyData.leavesShortAll] at c ⊢; exact ⟨c, by decide +kernel⟩
  · simp only [PyData.weight, PyData.weightAll] at d ⊢
    have : (("a" : String) : Str).cps.size = 1 := by decide +kernel
    omega
theorem shw_dict {i : Int} (h : Shw (.int i) ∧ (PyData.int i).weight ≤ 111) : Shw (.dict [(.str "a", .int i)]) := by
  obtain ⟨⟨a, b, c, _⟩, d⟩ := h
  refine ⟨?_, ?_, ?_, ?_⟩
  · simp [PyData.showable, PyData.showableKv] at a ⊢; exact a
  · simp [PyData.depth, PyData.depthKv]
  · simp [PyData.leavesShort, PyData.leavesShortKv] at c ⊢; exact ⟨by decide +kernel, c⟩
  · simp only [PyData.weight, PyData.weightKv] at d ⊢
    have : (("a" : String) : Str).cps.size = 1 := by decide +kernel
    omega
theorem shw_nest {i : Int} (h : Shw (.int i) ∧ (PyData.int i).weight ≤ 111) : Shw (.list [.list [.int i], .none]) := by
  obtain ⟨⟨a, b, c, _⟩, d⟩ := h
  refine ⟨?_, ?_, ?_, ?_⟩
  · simp [PyData.showable, PyData.showableAll] at a ⊢; exact a
  · simp [PyData.depth, PyData.depthAll]
  · simp [PyData.leavesShort, PyData.leavesShortAll] at c ⊢; exact c
  · simp only [PyData.weight, PyData.weightAll] at d ⊢; omega
def ShwB (x : Str) : Bool := (PyData.str x).showable && decide ((PyData.str x).depth ≤ 3) && PyData.leavesShort 40 (.str x) && decide ((PyData.str x).weight ≤ 500) && decide (x.length ≤ 4)
theorem shw_b {x : Str} (h : ShwB x = true) : Shw (.str x) ∧ x.length ≤ 4 := by
  simp only [ShwB, Bool.and_eq_true, decide_eq_true_eq] at h
  exact ⟨⟨h.1.1.1.1, h.1.1.1.2, h.1.1.2, h.1.2⟩, h.2⟩
theorem shw_z : ∀ k : Fin 5, ShwB (repS "z" (k.val : Int)) = true := by decide +kernel
theorem z_text {n : Int} (h : 0 ≤ n) (g : n < 5) : ∃ z : Str, repS (Str.ofString "z") n = z ∧ z.length ≤ 4 ∧ Shw (.str z) := by
  have e : n = ((⟨n.toNat, by omega⟩ : Fin 5).val : Int) := by simp; omega
  have a := shw_z ⟨n.toNat, by omega⟩
  rw [← e] at a
  exact ⟨_, rfl, (shw_b a).2, (shw_b a).1⟩
def sp_law_thing (_ : Txt K mg) : Sp := fun vs H Q _ => ∃ i j : Int, vs = [.int i, .int j] ∧ 0 ≤ j ∧ ∀ v H', Same H H' → (∀ a, v = .ref a → H a = none) → ThingT K H' v ∨ ThingL K H' v → Q v H'
def t_law_thing (w : World) (T : Txt K mg) : TS := tSeq (tAsg (tOp oMod (tCB (oInt) (tCons (tVar 0) (tNil))) (tOp oPow (tC (.int 10)) (tC (.int 30)))) (gName 2)) (tSeq (tAsg (tLst (tCons (tVar 2) (tCons (tOp oSub (tC (.int 0)) (tVar 2)) (tCons (tC .non) (tCons (tC (.bl true)) (tCons (tC (.bl false)) (tCons (tC (.str "")) (tCons (tOp rRepS (tC (.str "z")) (tOp oMod (tVar 2) (tC (.int 5)))) (tCons (tLst (tNil)) (tCons (tLst (tCons (tVar 2) (tNil))) (tCons (tTup (tNil)) (tCons (tTup (tCons (tVar 2) (tCons (tC (.str "a")) (tNil)))) (tNil))))))))))))) (gName 3)) (tSeq (tAsg (tOp rCat (tVar 3) (tLst (tCons (tDNewK) (tCons (tDisp ((tC (.str "a"), tVar 2) :: [])) (tCons (tLst (tCons (tLst (tCons (tVar 2) (tNil))) (tCons (tC .non) (tNil)))) (tCons (tC (.str "value")) (tNil))))))) (gName 3)) (tRet (tOp (rIxL K) (tVar 3) (tOp oMod (tOp oAdd (tVar 2) (tVar 1)) (tCB (rLenA K) (tCons (tVar 3) (tNil))))))))
theorem len_law_thing (T : Txt K mg) : ∀ (vs : List V) (H : Hp) (Q : VK) (E : XK), sp_law_thing T vs H Q E → vs.length = (["_law_cell", "_law_at"] : List Str).length := by
  rintro vs H Q E ⟨i, j, rfl, h⟩
  rfl
theorem rd_law_thing (T : Txt K mg) (vs : List V) (H : Hp) (Q : VK) (E : XK) (h : sp_law_thing T vs H Q E) : t_law_thing w T { nx := fun _ H' => Q .non H', rt := Q } (start ["_law_cell", "_law_at", "_law_many", "_law_values"] vs) H := by
  obtain ⟨i, j, rfl, j0, q⟩ := h
  have sz : sizeLine = 16777216 := rfl
  unfold t_law_thing
  walk_at "st"
  repeat walk_at "w"
  refine r_oInt ?_
  repeat walk_at "w"
  refine r_I pow30 ?_
  rw [pow30v]
  refine r_I (by decide) ?_
  have m0 := Int.emod_nonneg i (show (10 : Int) ^ 30 ≠ 0 by decide)
  have m1 := Int.emod_lt_of_pos i (show (0 : Int) < 10 ^ 30 by decide)
  generalize i % 10 ^ 30 = m at m0 m1 ⊢
  repeat walk_at "w"
  obtain ⟨z, hz, zl, zs⟩ := z_text (Int.emod_nonneg m (show (5 : Int) ≠ 0 by decide)) (Int.emod_lt_of_pos m (show (0 : Int) < 5 by decide))
  refine ⟨_, _, rfl, rfl, by decide, Int.emod_nonneg m (by decide), by omega, by rw [hz]; omega, ?_⟩
  rw [hz]
  repeat walk_at "w"
  rename_i pA HA nA sA hA pB HB nB sB hB pC HC nC sC hC pD HD nD sD hD pE HE nE sE hE pF HF nF sF hF
  refine r_dispS (K := K) (fun _ _ q => r_var rfl q) fun pG HG nG sG hG => ?_
  repeat walk_at "w"
  rename_i pH HH nH sH hH pI HI nI sI hI pJ HJ nJ sJ hJ pK HK nK sK hK
  have S1 := sJ.trans sK
  have Y1 := sA
  have Y2 := Y1.trans sB
  have Y3 := Y2.trans sC
  have Y4 := Y3.trans sD
  have Y5 := Y4.trans sE
  have Y6 := Y5.trans sF
  have Y7 := Y6.trans sG
  have Y8 := Y7.trans sH
  have S2 := sI.trans S1
  have S3 := sH.trans S2
  have S4 := sG.trans S3
  have S5 := sF.trans S4
  have S6 := sE.trans S5
  have S7 := sD.trans S6
  have S8 := sC.trans S7
  have S9 := sB.trans S8
  have S10 := sA.trans S9
  simp only [List.cons_append, List.nil_append, List.length_cons, List.length_nil] at hK ⊢
  have k0 := Int.emod_nonneg (m + j) (show (15 : Int) ≠ 0 by decide)
  have k1 := Int.emod_lt_of_pos (m + j) (show (0 : Int) < 15 by decide)
  refine r_I (by decide) ?_
  have ki : ∃ n : Nat, (m + j) % 15 = (n : Int) ∧ n < 15 := ⟨((m + j) % 15).toNat, by omega, by omega⟩
  obtain ⟨n, en, ln⟩ := ki
  show rIxL K (V.ref pK) (V.int ((m + j) % 15)) HK _
  rw [en]
  have gv : ∃ v, [V.int m, V.int (0 - m), V.non, V.bl true, V.bl false, V.str (Str.ofString ""), V.str z, V.ref pA, V.ref pB, V.ref pC, V.ref pD, V.ref pF, V.ref pG, V.ref pI, V.str (Str.ofString "value")][n]? = some v ∧ (∀ a, v = .ref a → H a = none) ∧ (ThingT K HK v ∨ ThingL K HK v) := by
    have ki := shw_int (i := m) (by omega)
    have kj := shw_int (i := 0 - m) (by omega)
    have cA := CP.Same.to S9 hA
    have cB := CP.Same.to S8 hB
    have cC := CP.Same.to S7 hC
    have cD := CP.Same.to S6 hD
    have cF := CP.Same.to S4 hF
    have cG := CP.Same.to S3 hG
    have cH := CP.Same.to S2 hH
    have cI := CP.Same.to S1 hI
    match n, ln with
    | 0, _ => exact ⟨_, rfl, (fun b e => by cases e), .inl ⟨.int m, "int", ki.1, by decide, fun _ S => ⟨tk_int, .inl ⟨.int m, rfl⟩⟩⟩⟩
    | 1, _ => exact ⟨_, rfl, (fun b e => by cases e), .inl ⟨.int (0 - m), "int", kj.1, by decide, fun _ S => ⟨tk_int, .inl ⟨.int (0 - m), rfl⟩⟩⟩⟩
    | 2, _ => exact ⟨_, rfl, (fun b e => by cases e), .inl ⟨.none, "NoneType", ⟨rfl, by decide, rfl, by decide⟩, by decide, fun _ S => ⟨tk_non, .inl ⟨.non, rfl⟩⟩⟩⟩
    | 3, _ => exact ⟨_, rfl, (fun b e => by cases e), .inl ⟨.bool true, "bool", ⟨rfl, by decide, rfl, by decide⟩, by decide, fun _ S => ⟨tk_bl, .inl ⟨.bl true, rfl⟩⟩⟩⟩
    | 4, _ => exact ⟨_, rfl, (fun b e => by cases e), .inl ⟨.bool false, "bool", ⟨rfl, by decide, rfl, by decide⟩, by decide, fun _ S => ⟨tk_bl, .inl ⟨.bl false, rfl⟩⟩⟩⟩
    | 5, _ => exact ⟨_, rfl, (fun b e => by cases e), .inl ⟨.str "", "str", (shw_b (by decide +kernel)).1, by decide, fun _ S => ⟨tk_str, .inl ⟨.str _, rfl⟩⟩⟩⟩
    | 6, _ => exact ⟨_, rfl, (fun b e => by cases e), .inl ⟨.str z, "str", zs, by decide, fun _ S => ⟨tk_str, .inl ⟨.str z, rfl⟩⟩⟩⟩
    | 7, _ => exact ⟨_, rfl, (fun b e => by cases e; exact nA), .inr ⟨pA, [], [], rfl, cA, by decide, ⟨rfl, by decide, rfl, by decide⟩, rfl, fun _ _ => .nil⟩⟩
    | 8, _ => exact ⟨_, rfl, (fun b e => by cases e; exact (L2.Same.free Y1 nB)), .inr ⟨pB, [.int m], [.int m], rfl, cB, by simp, shw_list ki, rfl, fun _ _ => .cons (.int m) .nil⟩⟩
    | 9, _ => exact ⟨_, rfl, (fun b e => by cases e; exact (L2.Same.free Y2 nC)), .inl ⟨.tuple [], "tuple", ⟨rfl, by decide, rfl, by decide⟩, by decide, fun _ S => ⟨tk_tup (CP.Same.to S cC), .inl ⟨.tup (.of (CP.Same.to S cC)) .nil, rfl⟩⟩⟩⟩
    | 10, _ => exact ⟨_, rfl, (fun b e => by cases e; exact (L2.Same.free Y3 nD)), .inl ⟨.tuple [.int m, .str "a"], "tuple", shw_tup ki, by decide, fun _ S => ⟨tk_tup (CP.Same.to S cD), .inl ⟨.tup (.of (CP.Same.to S cD)) (.cons (.int m) (.cons (.str _) .nil)), rfl⟩⟩⟩⟩
    | 11, _ => exact ⟨_, rfl, (fun b e => by cases e; exact (L2.Same.free Y5 nF)), .inl ⟨.dict [], "dict", ⟨rfl, by decide, rfl, by decide⟩, by decide, fun _ S => ⟨tk_dK (CP.Same.to S cF), .inr (DpD.dct (.of (CP.Same.to S cF)) .nil)⟩⟩⟩
    | 12, _ => exact ⟨_, rfl, (fun b e => by cases e; exact (L2.Same.free Y6 nG)), .inl ⟨.dict [(.str "a", .int m)], "dict", shw_dict ki, by decide, fun _ S => ⟨tk_dK (CP.Same.to S cG), .inr (DpD.dct (.of (CP.Same.to S cG)) (.cons (.int m) .nil))⟩⟩⟩
    | 13, _ => 
      have ne : pH ≠ pI := ne_of cH cI (by intro e; cases e)
      exact ⟨_, rfl, (fun b e => by cases e; exact (L2.Same.free Y8 nI)), .inr ⟨pI, [.ref pH, .non], [.list [.int m], .none], rfl, cI, by simp, shw_nest ki, rfl, fun H' k => .cons (.lst (.of (k _ _ ne cH)) (.cons (.int m) .nil)) (.cons .non .nil)⟩⟩
    | 14, _ => exact ⟨_, rfl, (fun b e => by cases e), .inl ⟨.str "value", "str", ⟨rfl, by decide, by decide +kernel, by decide +kernel⟩, by decide, fun _ S => ⟨tk_str, .inl ⟨.str _, rfl⟩⟩⟩⟩
  obtain ⟨v, ev, fv, tv⟩ := gv
  exact r_ixL (.of hK) (v := v) (atI_nat ev) (q v HK S10 fv tv)

theorem ok_law_thing (T : Txt K mg) : FnOk P w K mg base CX0 1 T.a_law_thing T.fd_law_thing ["_law_cell", "_law_at"] (sp_law_thing T) :=
  T.F_law_thing.ok sc_law_thing (len_law_thing T) fun cdv A outer s H vs Q E hr h => ⟨t_law_thing w T, (pss_cons (ps_set (i := 2) sc_law_thing.nd rfl (Or.inl rfl) (pe_op op_mod (pe_callTy call_int1 (by rfl) T.n_int (by decide +kernel) (pa_cons (pv 0) pa_nil)) (pe_op op_powW pe_int pe_int)))
      (pss_cons (ps_set (i := 3) sc_law_thing.nd rfl (Or.inl rfl) (pe_lst (pa_cons (pv 2) (pa_cons (pe_op op_sub pe_int (pv 2)) (pa_cons pe_non (pa_cons pe_bl (pa_cons pe_bl (pa_cons pe_str (pa_cons (pe_op op_repS pe_str (pe_op op_mod (pv 2) pe_int)) (pa_cons (pe_lst pa_nil) (pa_cons (pe_lst (pa_cons (pv 2) pa_nil)) (pa_cons (pe_tup pa_nil) (pa_cons (pe_tup (pa_cons (pv 2) (pa_cons pe_str pa_nil))) pa_nil)))))))))))))
      (pss_cons (ps_set (i := 3) sc_law_thing.nd rfl (Or.inl rfl) (pe_op op_cat (pv 3) (pe_lst (pa_cons pe_dnewK (pa_cons (pe_disp (pps_cons pe_str (pv 2) pps_nil) (by rfl) (by rfl) (fun z => by cases z) (by decide)) (pa_cons (pe_lst (pa_cons (pe_lst (pa_cons (pv 2) pa_nil)) (pa_cons pe_non pa_nil))) (pa_cons pe_str pa_nil)))))))
      (pss_one (ps_ret (pe_ix ix_list (pv 3) (pe_op op_mod (pe_op op_add (pv 2) (pv 1)) (pe_callB call_lenA (by rfl) T.n_len (by decide +kernel) (pa_cons (pv 3) pa_nil))) (fun _ _ => rfl))))))), rd_law_thing T vs H Q E h⟩
end
end CP

namespace CP
open PySem L2
section
variable {P : Program} {w : World} {K : PySem.W.Frag} {mg : Str → Option Value} {base : Heap}
def sp_InvalidCell___init (T : Txt K mg) : Sp := fun vs H Q _ => match vs with
  | [.ref a, v] => H a = some (exo a T.a_InvalidCell none) ∧ ∀ dx, H dx = none → dx ≠ a → Q .non (upd (upd H dx (exd dx [("value", v)])) a (exo a T.a_InvalidCell (some dx)))
  | _ => False
def t_InvalidCell___init (w : World) (T : Txt K mg) : TS := tSeq (tDrop (tVeI K (tCons (tVar 0) (tCons (tC (.str "invalid cell")) (tNil))))) (tOst K "value" (tVar 0) (tVar 1))
theorem len_InvalidCell___init (T : Txt K mg) : ∀ (vs : List V) (H : Hp) (Q : VK) (E : XK), sp_InvalidCell___init T vs H Q E → vs.length = (["self", "value"] : List Str).length := by
  intro vs H Q E h
  unfold sp_InvalidCell___init at h
  split at h
  all_goals first | rfl | exact h.elim
theorem rd_InvalidCell___init (T : Txt K mg) (vs : List V) (H : Hp) (Q : VK) (E : XK) (h : sp_InvalidCell___init T vs H Q E) : t_InvalidCell___init w T { nx := fun _ H' => Q .non H', rt := Q } (start ["self", "value"] vs) H := by
  match vs, h with
  | [.ref a, v], h =>
  obtain ⟨ha, q⟩ := h
  unfold t_InvalidCell___init
  walk_at "st"
  repeat walk_at "w"
  refine r_veI ?_
  repeat walk_at "w"
  refine ⟨a, T.a_InvalidCell, _, rfl, by decide, T.e_InvalidCell.ox, ha, ?_⟩
  dsimp only
  refine r_ost ?_
  repeat walk_at "w"
  exact ⟨a, T.a_InvalidCell, rfl, T.e_InvalidCell.ox, T.e_InvalidCell.no, .inl ⟨ha, fun dx n ne => q dx n ne⟩⟩
theorem ok_InvalidCell___init (T : Txt K mg) : FnOk P w K mg base CX0 1 T.a_InvalidCell___init T.fd_InvalidCell___init ["self", "value"] (sp_InvalidCell___init T) :=
  T.F_InvalidCell___init.ok (CX := CX0) sc_InvalidCell___init (len_InvalidCell___init T) fun cdv A outer s H vs Q E hr h => ⟨t_InvalidCell___init w T, PSs.nox (pss_cons (ps_expr (pe_ceinit (by rfl) T.m_CellError T.cr_CellError T.vi_CellError (pa_cons (pv 0) (pa_cons pe_str pa_nil))))
      (pss_one (ps_ost (pv 0) (pv 1)))), rd_InvalidCell___init T vs H Q E h⟩
end
end CP

namespace CP
open PySem L2
section
variable {P : Program} {w : World} {K : PySem.W.Frag} {mg : Str → Option Value} {base : Heap}
def sp_InvalidForm___init (T : Txt K mg) : Sp := fun vs H Q _ => match vs with
  | [.ref a, v] => H a = some (exo a T.a_InvalidForm none) ∧ ∀ dx, H dx = none → dx ≠ a → Q .non (upd (upd H dx (exd dx [("value", v)])) a (exo a T.a_InvalidForm (some dx)))
  | _ => False
def t_InvalidForm___init (w : World) (T : Txt K mg) : TS := tSeq (tDrop (tVeI K (tCons (tVar 0) (tCons (tC (.str "invalid form")) (tNil))))) (tOst K "value" (tVar 0) (tVar 1))
theorem len_InvalidForm___init (T : Txt K mg) : ∀ (vs : List V) (H : Hp) (Q : VK) (E : XK), sp_InvalidForm___init T vs H Q E → vs.length = (["self", "value"] : List Str).length := by
  intro vs H Q E h
  unfold sp_InvalidForm___init at h
  split at h
  all_goals first | rfl | exact h.elim
theorem rd_InvalidForm___init (T : Txt K mg) (vs : List V) (H : Hp) (Q : VK) (E : XK) (h : sp_InvalidForm___init T vs H Q E) : t_InvalidForm___init w T { nx := fun _ H' => Q .non H', rt := Q } (start ["self", "value"] vs) H := by
  match vs, h with
  | [.ref a, v], h =>
  obtain ⟨ha, q⟩ := h
  unfold t_InvalidForm___init
  walk_at "st"
  repeat walk_at "w"
  refine r_veI ?_
  repeat walk_at "w"
  refine ⟨a, T.a_InvalidForm, _, rfl, by decide, T.e_InvalidForm.ox, ha, ?_⟩
  dsimp only
  refine r_ost ?_
  repeat walk_at "w"
  exact ⟨a, T.a_InvalidForm, rfl, T.e_InvalidForm.ox, T.e_InvalidForm.no, .inl ⟨ha, fun dx n ne => q dx n ne⟩⟩
theorem ok_InvalidForm___init (T : Txt K mg) : FnOk P w K mg base CX0 1 T.a_InvalidForm___init T.fd_InvalidForm___init ["self", "value"] (sp_InvalidForm___init T) :=
  T.F_InvalidForm___init.ok (CX := CX0) sc_InvalidForm___init (len_InvalidForm___init T) fun cdv A outer s H vs Q E hr h => ⟨t_InvalidForm___init w T, PSs.nox (pss_cons (ps_expr (pe_ceinit (by rfl) T.m_CellError T.cr_CellError T.vi_CellError (pa_cons (pv 0) (pa_cons pe_str pa_nil))))
      (pss_one (ps_ost (pv 0) (pv 1)))), rd_InvalidForm___init T vs H Q E h⟩
end
end CP

namespace CP
open PySem L2
section
variable {P : Program} {w : World} {K : PySem.W.Frag} {mg : Str → Option Value} {base : Heap}
def sp_InvalidLetter___init (T : Txt K mg) : Sp := fun vs H Q _ => match vs with
  | [.ref a, v] => H a = some (exo a T.a_InvalidLetter none) ∧ ∀ dx, H dx = none → dx ≠ a → Q .non (upd (upd H dx (exd dx [("value", v)])) a (exo a T.a_InvalidLetter (some dx)))
  | _ => False
def t_InvalidLetter___init (w : World) (T : Txt K mg) : TS := tSeq (tDrop (tVeI K (tCons (tVar 0) (tCons (tC (.str "invalid letter")) (tNil))))) (tOst K "value" (tVar 0) (tVar 1))
theorem len_InvalidLetter___init (T : Txt K mg) : ∀ (vs : List V) (H : Hp) (Q : VK) (E : XK), sp_InvalidLetter___init T vs H Q E → vs.length = (["self", "value"] : List Str).length := by
  intro vs H Q E h
  unfold sp_InvalidLetter___init at h
  split at h
  all_goals first | rfl | exact h.elim
theorem rd_InvalidLetter___init (T : Txt K mg) (vs : List V) (H : Hp) (Q : VK) (E : XK) (h : sp_InvalidLetter___init T vs H Q E) : t_InvalidLetter___init w T { nx := fun _ H' => Q .non H', rt := Q } (start ["self", "value"] vs) H := by
  match vs, h with
  | [.ref a, v], h =>
  obtain ⟨ha, q⟩ := h
  unfold t_InvalidLetter___init
  walk_at "st"
  repeat walk_at "w"
  refine r_veI ?_
  repeat walk_at "w"
  refine ⟨a, T.a_InvalidLetter, _, rfl, by decide, T.e_InvalidLetter.ox, ha, ?_⟩
  dsimp only
  refine r_ost ?_
  repeat walk_at "w"
  exact ⟨a, T.a_InvalidLetter, rfl, T.e_InvalidLetter.ox, T.e_InvalidLetter.no, .inl ⟨ha, fun dx n ne => q dx n ne⟩⟩
theorem ok_InvalidLetter___init (T : Txt K mg) : FnOk P w K mg base CX0 1 T.a_InvalidLetter___init T.fd_InvalidLetter___init ["self", "value"] (sp_InvalidLetter___init T) :=
  T.F_InvalidLetter___init.ok (CX := CX0) sc_InvalidLetter___init (len_InvalidLetter___init T) fun cdv A outer s H vs Q E hr h => ⟨t_InvalidLetter___init w T, PSs.nox (pss_cons (ps_expr (pe_ceinit (by rfl) T.m_CellError T.cr_CellError T.vi_CellError (pa_cons (pv 0) (pa_cons pe_str pa_nil))))
      (pss_one (ps_ost (pv 0) (pv 1)))), rd_InvalidLetter___init T vs H Q E h⟩
end
end CP

namespace CP
open PySem L2
section
variable {P : Program} {w : World} {K : PySem.W.Frag} {mg : Str → Option Value} {base : Heap}
def sp_InvalidLoops___init (T : Txt K mg) : Sp := fun vs H Q _ => match vs with
  | [.ref a, v] => H a = some (exo a T.a_InvalidLoops none) ∧ ∀ dx, H dx = none → dx ≠ a → Q .non (upd (upd H dx (exd dx [("value", v)])) a (exo a T.a_InvalidLoops (some dx)))
  | _ => False
def t_InvalidLoops___init (w : World) (T : Txt K mg) : TS := tSeq (tDrop (tVeI K (tCons (tVar 0) (tCons (tC (.str "invalid loops")) (tNil))))) (tOst K "value" (tVar 0) (tVar 1))
theorem len_InvalidLoops___init (T : Txt K mg) : ∀ (vs : List V) (H : Hp) (Q : VK) (E : XK), sp_InvalidLoops___init T vs H Q E → vs.length = (["self", "value"] : List Str).length := by
  intro vs H Q E h
  unfold sp_InvalidLoops___init at h
  split at h
  all_goals first | rfl | exact h.elim
theorem rd_InvalidLoops___init (T : Txt K mg) (vs : List V) (H : Hp) (Q : VK) (E : XK) (h : sp_InvalidLoops___init T vs H Q E) : t_InvalidLoops___init w T { nx := fun _ H' => Q .non H', rt := Q } (start ["self", "value"] vs) H := by
  match vs, h with
  | [.ref a, v], h =>
  obtain ⟨ha, q⟩ := h
  unfold t_InvalidLoops___init
  walk_at "st"
  repeat walk_at "w"
  refine r_veI ?_
  repeat walk_at "w"
  refine ⟨a, T.a_InvalidLoops, _, rfl, by decide, T.e_InvalidLoops.ox, ha, ?_⟩
  dsimp only
  refine r_ost ?_
  repeat walk_at "w"
  exact ⟨a, T.a_InvalidLoops, rfl, T.e_InvalidLoops.ox, T.e_InvalidLoops.no, .inl ⟨ha, fun dx n ne => q dx n ne⟩⟩
theorem ok_InvalidLoops___init (T : Txt K mg) : FnOk P w K mg base CX0 1 T.a_InvalidLoops___init T.fd_InvalidLoops___init ["self", "value"] (sp_InvalidLoops___init T) :=
  T.F_InvalidLoops___init.ok (CX := CX0) sc_InvalidLoops___init (len_InvalidLoops___init T) fun cdv A outer s H vs Q E hr h => ⟨t_InvalidLoops___init w T, PSs.nox (pss_cons (ps_expr (pe_ceinit (by rfl) T.m_CellError T.cr_CellError T.vi_CellError (pa_cons (pv 0) (pa_cons pe_str pa_nil))))
      (pss_one (ps_ost (pv 0) (pv 1)))), rd_InvalidLoops___init T vs H Q E h⟩
end
end CP

namespace CP
open PySem L2
section
variable {P : Program} {w : World} {K : PySem.W.Frag} {mg : Str → Option Value} {base : Heap}
def sp_InvalidNumber___init (T : Txt K mg) : Sp := fun vs H Q _ => match vs with
  | [.ref a, v] => H a = some (exo a T.a_InvalidNumber none) ∧ ∀ dx, H dx = none → dx ≠ a → Q .non (upd (upd H dx (exd dx [("value", v)])) a (exo a T.a_InvalidNumber (some dx)))
  | _ => False
def t_InvalidNumber___init (w : World) (T : Txt K mg) : TS := tSeq (tDrop (tVeI K (tCons (tVar 0) (tCons (tC (.str "invalid number")) (tNil))))) (tOst K "value" (tVar 0) (tVar 1))
theorem len_InvalidNumber___init (T : Txt K mg) : ∀ (vs : List V) (H : Hp) (Q : VK) (E : XK), sp_InvalidNumber___init T vs H Q E → vs.length = (["self", "value"] : List Str).length := by
  intro vs H Q E h
  unfold sp_InvalidNumber___init at h
  split at h
  all_goals first | rfl | exact h.elim
theorem rd_InvalidNumber___init (T : Txt K mg) (vs : List V) (H : Hp) (Q : VK) (E : XK) (h : sp_InvalidNumber___init T vs H Q E) : t_InvalidNumber___init w T { nx := fun _ H' => Q .non H', rt := Q } (start ["self", "value"] vs) H := by
  match vs, h with
  | [.ref a, v], h =>
  obtain ⟨ha, q⟩ := h
  unfold t_InvalidNumber___init
  walk_at "st"
  repeat walk_at "w"
  refine r_veI ?_
  repeat walk_at "w"
  refine ⟨a, T.a_InvalidNumber, _, rfl, by decide, T.e_InvalidNumber.ox, ha, ?_⟩
  dsimp only
  refine r_ost ?_
  repeat walk_at "w"
  exact ⟨a, T.a_InvalidNumber, rfl, T.e_InvalidNumber.ox, T.e_InvalidNumber.no, .inl ⟨ha, fun dx n ne => q dx n ne⟩⟩
theorem ok_InvalidNumber___init (T : Txt K mg) : FnOk P w K mg base CX0 1 T.a_InvalidNumber___init T.fd_InvalidNumber___init ["self", "value"] (sp_InvalidNumber___init T) :=
  T.F_InvalidNumber___init.ok (CX := CX0) sc_InvalidNumber___init (len_InvalidNumber___init T) fun cdv A outer s H vs Q E hr h => ⟨t_InvalidNumber___init w T, PSs.nox (pss_cons (ps_expr (pe_ceinit (by rfl) T.m_CellError T.cr_CellError T.vi_CellError (pa_cons (pv 0) (pa_cons pe_str pa_nil))))
      (pss_one (ps_ost (pv 0) (pv 1)))), rd_InvalidNumber___init T vs H Q E h⟩
end
end CP

namespace CP
open PySem L2
section
variable {P : Program} {w : World} {K : PySem.W.Frag} {mg : Str → Option Value} {base : Heap}
def sp_InvalidShape___init (T : Txt K mg) : Sp := fun vs H Q _ => match vs with
  | [.ref a, v] => H a = some (exo a T.a_InvalidShape none) ∧ ∀ dx, H dx = none → dx ≠ a → Q .non (upd (upd H dx (exd dx [("value", v)])) a (exo a T.a_InvalidShape (some dx)))
  | _ => False
def t_InvalidShape___init (w : World) (T : Txt K mg) : TS := tSeq (tDrop (tVeI K (tCons (tVar 0) (tCons (tC (.str "invalid shape")) (tNil))))) (tOst K "value" (tVar 0) (tVar 1))
theorem len_InvalidShape___init (T : Txt K mg) : ∀ (vs : List V) (H : Hp) (Q : VK) (E : XK), sp_InvalidShape___init T vs H Q E → vs.length = (["self", "value"] : List Str).length := by
  intro vs H Q E h
  unfold sp_InvalidShape___init at h
  split at h
  all_goals first | rfl | exact h.elim
theorem rd_InvalidShape___init (T : Txt K mg) (vs : List V) (H : Hp) (Q : VK) (E : XK) (h : sp_InvalidShape___init T vs H Q E) : t_InvalidShape___init w T { nx := fun _ H' => Q .non H', rt := Q } (start ["self", "value"] vs) H := by
  match vs, h with
  | [.ref a, v], h =>
  obtain ⟨ha, q⟩ := h
  unfold t_InvalidShape___init
  walk_at "st"
  repeat walk_at "w"
  refine r_veI ?_
  repeat walk_at "w"
  refine ⟨a, T.a_InvalidShape, _, rfl, by decide, T.e_InvalidShape.ox, ha, ?_⟩
  dsimp only
  refine r_ost ?_
  repeat walk_at "w"
  exact ⟨a, T.a_InvalidShape, rfl, T.e_InvalidShape.ox, T.e_InvalidShape.no, .inl ⟨ha, fun dx n ne => q dx n ne⟩⟩
theorem ok_InvalidShape___init (T : Txt K mg) : FnOk P w K mg base CX0 1 T.a_InvalidShape___init T.fd_InvalidShape___init ["self", "value"] (sp_InvalidShape___init T) :=
  T.F_InvalidShape___init.ok (CX := CX0) sc_InvalidShape___init (len_InvalidShape___init T) fun cdv A outer s H vs Q E hr h => ⟨t_InvalidShape___init w T, PSs.nox (pss_cons (ps_expr (pe_ceinit (by rfl) T.m_CellError T.cr_CellError T.vi_CellError (pa_cons (pv 0) (pa_cons pe_str pa_nil))))
      (pss_one (ps_ost (pv 0) (pv 1)))), rd_InvalidShape___init T vs H Q E h⟩
end
end CP

namespace CP
open PySem L2
section
variable {P : Program} {w : World} {K : PySem.W.Frag} {mg : Str → Option Value} {base : Heap}
def sp_InvalidSides___init (T : Txt K mg) : Sp := fun vs H Q _ => match vs with
  | [.ref a, v] => H a = some (exo a T.a_InvalidSides none) ∧ ∀ dx, H dx = none → dx ≠ a → Q .non (upd (upd H dx (exd dx [("value", v)])) a (exo a T.a_InvalidSides (some dx)))
  | _ => False
def t_InvalidSides___init (w : World) (T : Txt K mg) : TS := tSeq (tDrop (tVeI K (tCons (tVar 0) (tCons (tC (.str "invalid sides")) (tNil))))) (tOst K "value" (tVar 0) (tVar 1))
theorem len_InvalidSides___init (T : Txt K mg) : ∀ (vs : List V) (H : Hp) (Q : VK) (E : XK), sp_InvalidSides___init T vs H Q E → vs.length = (["self", "value"] : List Str).length := by
  intro vs H Q E h
  unfold sp_InvalidSides___init at h
  split at h
  all_goals first | rfl | exact h.elim
theorem rd_InvalidSides___init (T : Txt K mg) (vs : List V) (H : Hp) (Q : VK) (E : XK) (h : sp_InvalidSides___init T vs H Q E) : t_InvalidSides___init w T { nx := fun _ H' => Q .non H', rt := Q } (start ["self", "value"] vs) H := by
  match vs, h with
  | [.ref a, v], h =>
  obtain ⟨ha, q⟩ := h
  unfold t_InvalidSides___init
  walk_at "st"
  repeat walk_at "w"
  refine r_veI ?_
  repeat walk_at "w"
  refine ⟨a, T.a_InvalidSides, _, rfl, by decide, T.e_InvalidSides.ox, ha, ?_⟩
  dsimp only
  refine r_ost ?_
  repeat walk_at "w"
  exact ⟨a, T.a_InvalidSides, rfl, T.e_InvalidSides.ox, T.e_InvalidSides.no, .inl ⟨ha, fun dx n ne => q dx n ne⟩⟩
theorem ok_InvalidSides___init (T : Txt K mg) : FnOk P w K mg base CX0 1 T.a_InvalidSides___init T.fd_InvalidSides___init ["self", "value"] (sp_InvalidSides___init T) :=
  T.F_InvalidSides___init.ok (CX := CX0) sc_InvalidSides___init (len_InvalidSides___init T) fun cdv A outer s H vs Q E hr h => ⟨t_InvalidSides___init w T, PSs.nox (pss_cons (ps_expr (pe_ceinit (by rfl) T.m_CellError T.cr_CellError T.vi_CellError (pa_cons (pv 0) (pa_cons pe_str pa_nil))))
      (pss_one (ps_ost (pv 0) (pv 1)))), rd_InvalidSides___init T vs H Q E h⟩
end
end CP

namespace CP
open PySem L2
section
variable {P : Program} {w : World} {K : PySem.W.Frag} {mg : Str → Option Value} {base : Heap}
def sp_InvalidTable___init (T : Txt K mg) : Sp := fun vs H Q _ => match vs with
  | [.ref a, v] => H a = some (exo a T.a_InvalidTable none) ∧ ∀ dx, H dx = none → dx ≠ a → Q .non (upd (upd H dx (exd dx [("value", v)])) a (exo a T.a_InvalidTable (some dx)))
  | _ => False
def t_InvalidTable___init (w : World) (T : Txt K mg) : TS := tSeq (tDrop (tVeI K (tCons (tVar 0) (tCons (tC (.str "invalid table")) (tNil))))) (tOst K "value" (tVar 0) (tVar 1))
theorem len_InvalidTable___init (T : Txt K mg) : ∀ (vs : List V) (H : Hp) (Q : VK) (E : XK), sp_InvalidTable___init T vs H Q E → vs.length = (["self", "value"] : List Str).length := by
  intro vs H Q E h
  unfold sp_InvalidTable___init at h
  split at h
  all_goals first | rfl | exact h.elim
theorem rd_InvalidTable___init (T : Txt K mg) (vs : List V) (H : Hp) (Q : VK) (E : XK) (h : sp_InvalidTable___init T vs H Q E) : t_InvalidTable___init w T { nx := fun _ H' => Q .non H', rt := Q } (start ["self", "value"] vs) H := by
  match vs, h with
  | [.ref a, v], h =>
  obtain ⟨ha, q⟩ := h
  unfold t_InvalidTable___init
  walk_at "st"
  repeat walk_at "w"
  refine r_veI ?_
  repeat walk_at "w"
  refine ⟨a, T.a_InvalidTable, _, rfl, by decide, T.e_InvalidTable.ox, ha, ?_⟩
  dsimp only
  refine r_ost ?_
  repeat walk_at "w"
  exact ⟨a, T.a_InvalidTable, rfl, T.e_InvalidTable.ox, T.e_InvalidTable.no, .inl ⟨ha, fun dx n ne => q dx n ne⟩⟩
theorem ok_InvalidTable___init (T : Txt K mg) : FnOk P w K mg base CX0 1 T.a_InvalidTable___init T.fd_InvalidTable___init ["self", "value"] (sp_InvalidTable___init T) :=
  T.F_InvalidTable___init.ok (CX := CX0) sc_InvalidTable___init (len_InvalidTable___init T) fun cdv A outer s H vs Q E hr h => ⟨t_InvalidTable___init w T, PSs.nox (pss_cons (ps_expr (pe_ceinit (by rfl) T.m_CellError T.cr_CellError T.vi_CellError (pa_cons (pv 0) (pa_cons pe_str pa_nil))))
      (pss_one (ps_ost (pv 0) (pv 1)))), rd_InvalidTable___init T vs H Q E h⟩
end
end CP

namespace CP
open PySem L2
section
variable {P : Program} {w : World} {K : PySem.W.Frag} {mg : Str → Option Value} {base : Heap}
def sp_InvalidText___init (T : Txt K mg) : Sp := fun vs H Q _ => match vs with
  | [.ref a, v] => H a = some (exo a T.a_InvalidText none) ∧ ∀ dx, H dx = none → dx ≠ a → Q .non (upd (upd H dx (exd dx [("value", v)])) a (exo a T.a_InvalidText (some dx)))
  | _ => False
def t_InvalidText___init (w : World) (T : Txt K mg) : TS := tSeq (tDrop (tVeI K (tCons (tVar 0) (tCons (tC (.str "invalid text")) (tNil))))) (tOst K "value" (tVar 0) (tVar 1))
theorem len_InvalidText___init (T : Txt K mg) : ∀ (vs : List V) (H : Hp) (Q : VK) (E : XK), sp_InvalidText___init T vs H Q E → vs.length = (["self", "value"] : List Str).length := by
  intro vs H Q E h
  unfold sp_InvalidText___init at h
  split at h
  all_goals first | rfl | exact h.elim
theorem rd_InvalidText___init (T : Txt K mg) (vs : List V) (H : Hp) (Q : VK) (E : XK) (h : sp_InvalidText___init T vs H Q E) : t_InvalidText___init w T { nx := fun _ H' => Q .non H', rt := Q } (start ["self", "value"] vs) H := by
  match vs, h with
  | [.ref a, v], h =>
  obtain ⟨ha, q⟩ := h
  unfold t_InvalidText___init
  walk_at "st"
  repeat walk_at "w"
  refine r_veI ?_
  repeat walk_at "w"
  refine ⟨a, T.a_InvalidText, _, rfl, by decide, T.e_InvalidText.ox, ha, ?_⟩
  dsimp only
  refine r_ost ?_
  repeat walk_at "w"
  exact ⟨a, T.a_InvalidText, rfl, T.e_InvalidText.ox, T.e_InvalidText.no, .inl ⟨ha, fun dx n ne => q dx n ne⟩⟩
theorem ok_InvalidText___init (T : Txt K mg) : FnOk P w K mg base CX0 1 T.a_InvalidText___init T.fd_InvalidText___init ["self", "value"] (sp_InvalidText___init T) :=
  T.F_InvalidText___init.ok (CX := CX0) sc_InvalidText___init (len_InvalidText___init T) fun cdv A outer s H vs Q E hr h => ⟨t_InvalidText___init w T, PSs.nox (pss_cons (ps_expr (pe_ceinit (by rfl) T.m_CellError T.cr_CellError T.vi_CellError (pa_cons (pv 0) (pa_cons pe_str pa_nil))))
      (pss_one (ps_ost (pv 0) (pv 1)))), rd_InvalidText___init T vs H Q E h⟩
end
end CP

namespace CP
open PySem L2
section
variable {P : Program} {w : World} {K : PySem.W.Frag} {mg : Str → Option Value} {base : Heap}
def sp_InvalidValues___init (T : Txt K mg) : Sp := fun vs H Q _ => match vs with
  | [.ref a, v] => H a = some (exo a T.a_InvalidValues none) ∧ ∀ dx, H dx = none → dx ≠ a → Q .non (upd (upd H dx (exd dx [("value", v)])) a (exo a T.a_InvalidValues (some dx)))
  | _ => False
def t_InvalidValues___init (w : World) (T : Txt K mg) : TS := tSeq (tDrop (tVeI K (tCons (tVar 0) (tCons (tC (.str "invalid values")) (tNil))))) (tOst K "value" (tVar 0) (tVar 1))
theorem len_InvalidValues___init (T : Txt K mg) : ∀ (vs : List V) (H : Hp) (Q : VK) (E : XK), sp_InvalidValues___init T vs H Q E → vs.length = (["self", "value"] : List Str).length := by
  intro vs H Q E h
  unfold sp_InvalidValues___init at h
  split at h
  all_goals first | rfl | exact h.elim
theorem rd_InvalidValues___init (T : Txt K mg) (vs : List V) (H : Hp) (Q : VK) (E : XK) (h : sp_InvalidValues___init T vs H Q E) : t_InvalidValues___init w T { nx := fun _ H' => Q .non H', rt := Q } (start ["self", "value"] vs) H := by
  match vs, h with
  | [.ref a, v], h =>
  obtain ⟨ha, q⟩ := h
  unfold t_InvalidValues___init
  walk_at "st"
  repeat walk_at "w"
  refine r_veI ?_
  repeat walk_at "w"
  refine ⟨a, T.a_InvalidValues, _, rfl, by decide, T.e_InvalidValues.ox, ha, ?_⟩
  dsimp only
  refine r_ost ?_
  repeat walk_at "w"
  exact ⟨a, T.a_InvalidValues, rfl, T.e_InvalidValues.ox, T.e_InvalidValues.no, .inl ⟨ha, fun dx n ne => q dx n ne⟩⟩
theorem ok_InvalidValues___init (T : Txt K mg) : FnOk P w K mg base CX0 1 T.a_InvalidValues___init T.fd_InvalidValues___init ["self", "value"] (sp_InvalidValues___init T) :=
  T.F_InvalidValues___init.ok (CX := CX0) sc_InvalidValues___init (len_InvalidValues___init T) fun cdv A outer s H vs Q E hr h => ⟨t_InvalidValues___init w T, PSs.nox (pss_cons (ps_expr (pe_ceinit (by rfl) T.m_CellError T.cr_CellError T.vi_CellError (pa_cons (pv 0) (pa_cons pe_str pa_nil))))
      (pss_one (ps_ost (pv 0) (pv 1)))), rd_InvalidValues___init T vs H Q E h⟩
end
end CP

namespace CP
open PySem L2
section
variable {P : Program} {w : World} {K : PySem.W.Frag} {mg : Str → Option Value} {base : Heap}
def sp_InvalidWalk___init (T : Txt K mg) : Sp := fun vs H Q _ => match vs with
  | [.ref a, v] => H a = some (exo a T.a_InvalidWalk none) ∧ ∀ dx, H dx = none → dx ≠ a → Q .non (upd (upd H dx (exd dx [("value", v)])) a (exo a T.a_InvalidWalk (some dx)))
  | _ => False
def t_InvalidWalk___init (w : World) (T : Txt K mg) : TS := tSeq (tDrop (tVeI K (tCons (tVar 0) (tCons (tC (.str "invalid walk")) (tNil))))) (tOst K "value" (tVar 0) (tVar 1))
theorem len_InvalidWalk___init (T : Txt K mg) : ∀ (vs : List V) (H : Hp) (Q : VK) (E : XK), sp_InvalidWalk___init T vs H Q E → vs.length = (["self", "value"] : List Str).length := by
  intro vs H Q E h
  unfold sp_InvalidWalk___init at h
  split at h
  all_goals first | rfl | exact h.elim
theorem rd_InvalidWalk___init (T : Txt K mg) (vs : List V) (H : Hp) (Q : VK) (E : XK) (h : sp_InvalidWalk___init T vs H Q E) : t_InvalidWalk___init w T { nx := fun _ H' => Q .non H', rt := Q } (start ["self", "value"] vs) H := by
  match vs, h with
  | [.ref a, v], h =>
  obtain ⟨ha, q⟩ := h
  unfold t_InvalidWalk___init
  walk_at "st"
  repeat walk_at "w"
  refine r_veI ?_
  repeat walk_at "w"
  refine ⟨a, T.a_InvalidWalk, _, rfl, by decide, T.e_InvalidWalk.ox, ha, ?_⟩
  dsimp only
  refine r_ost ?_
  repeat walk_at "w"
  exact ⟨a, T.a_InvalidWalk, rfl, T.e_InvalidWalk.ox, T.e_InvalidWalk.no, .inl ⟨ha, fun dx n ne => q dx n ne⟩⟩
theorem ok_InvalidWalk___init (T : Txt K mg) : FnOk P w K mg base CX0 1 T.a_InvalidWalk___init T.fd_InvalidWalk___init ["self", "value"] (sp_InvalidWalk___init T) :=
  T.F_InvalidWalk___init.ok (CX := CX0) sc_InvalidWalk___init (len_InvalidWalk___init T) fun cdv A outer s H vs Q E hr h => ⟨t_InvalidWalk___init w T, PSs.nox (pss_cons (ps_expr (pe_ceinit (by rfl) T.m_CellError T.cr_CellError T.vi_CellError (pa_cons (pv 0) (pa_cons pe_str pa_nil))))
      (pss_one (ps_ost (pv 0) (pv 1)))), rd_InvalidWalk___init T vs H Q E h⟩
end
end CP

namespace CP
open PySem L2
section
variable {P : Program} {w : World} {K : PySem.W.Frag} {mg : Str → Option Value} {base : Heap}
def sp_NoRoom___init (T : Txt K mg) : Sp := fun vs H Q _ => match vs with
  | [.ref a, v] => H a = some (exo a T.a_NoRoom none) ∧ ∀ dx, H dx = none → dx ≠ a → Q .non (upd (upd H dx (exd dx [("place", v)])) a (exo a T.a_NoRoom (some dx)))
  | _ => False
def t_NoRoom___init (w : World) (T : Txt K mg) : TS := tSeq (tDrop (tVeI K (tCons (tVar 0) (tCons (tC (.str "no room")) (tNil))))) (tOst K "place" (tVar 0) (tVar 1))
theorem len_NoRoom___init (T : Txt K mg) : ∀ (vs : List V) (H : Hp) (Q : VK) (E : XK), sp_NoRoom___init T vs H Q E → vs.length = (["self", "place"] : List Str).length := by
  intro vs H Q E h
  unfold sp_NoRoom___init at h
  split at h
  all_goals first | rfl | exact h.elim
theorem rd_NoRoom___init (T : Txt K mg) (vs : List V) (H : Hp) (Q : VK) (E : XK) (h : sp_NoRoom___init T vs H Q E) : t_NoRoom___init w T { nx := fun _ H' => Q .non H', rt := Q } (start ["self", "place"] vs) H := by
  match vs, h with
  | [.ref a, v], h =>
  obtain ⟨ha, q⟩ := h
  unfold t_NoRoom___init
  walk_at "st"
  repeat walk_at "w"
  refine r_veI ?_
  repeat walk_at "w"
  refine ⟨a, T.a_NoRoom, _, rfl, by decide, T.e_NoRoom.ox, ha, ?_⟩
  dsimp only
  refine r_ost ?_
  repeat walk_at "w"
  exact ⟨a, T.a_NoRoom, rfl, T.e_NoRoom.ox, T.e_NoRoom.no, .inl ⟨ha, fun dx n ne => q dx n ne⟩⟩
theorem ok_NoRoom___init (T : Txt K mg) : FnOk P w K mg base CX0 1 T.a_NoRoom___init T.fd_NoRoom___init ["self", "place"] (sp_NoRoom___init T) :=
  T.F_NoRoom___init.ok (CX := CX0) sc_NoRoom___init (len_NoRoom___init T) fun cdv A outer s H vs Q E hr h => ⟨t_NoRoom___init w T, PSs.nox (pss_cons (ps_expr (pe_ceinit (by rfl) T.m_CellError T.cr_CellError T.vi_CellError (pa_cons (pv 0) (pa_cons pe_str pa_nil))))
      (pss_one (ps_ost (pv 0) (pv 1)))), rd_NoRoom___init T vs H Q E h⟩
end
end CP

namespace CP
open PySem L2
section
variable {P : Program} {w : World} {K : PySem.W.Frag} {mg : Str → Option Value} {base : Heap}
def sp_ShortLoop___init (T : Txt K mg) : Sp := fun vs H Q _ => match vs with
  | [.ref a, v] => H a = some (exo a T.a_ShortLoop none) ∧ ∀ dx, H dx = none → dx ≠ a → Q .non (upd (upd H dx (exd dx [("name", v)])) a (exo a T.a_ShortLoop (some dx)))
  | _ => False
def t_ShortLoop___init (w : World) (T : Txt K mg) : TS := tSeq (tDrop (tVeI K (tCons (tVar 0) (tCons (tC (.str "short loop")) (tNil))))) (tOst K "name" (tVar 0) (tVar 1))
theorem len_ShortLoop___init (T : Txt K mg) : ∀ (vs : List V) (H : Hp) (Q : VK) (E : XK), sp_ShortLoop___init T vs H Q E → vs.length = (["self", "name"] : List Str).length := by
  intro vs H Q E h
  unfold sp_ShortLoop___init at h
  split at h
  all_goals first | rfl | exact h.elim
theorem rd_ShortLoop___init (T : Txt K mg) (vs : List V) (H : Hp) (Q : VK) (E : XK) (h : sp_ShortLoop___init T vs H Q E) : t_ShortLoop___init w T { nx := fun _ H' => Q .non H', rt := Q } (start ["self", "name"] vs) H := by
  match vs, h with
  | [.ref a, v], h =>
  obtain ⟨ha, q⟩ := h
  unfold t_ShortLoop___init
  walk_at "st"
  repeat walk_at "w"
  refine r_veI ?_
  repeat walk_at "w"
  refine ⟨a, T.a_ShortLoop, _, rfl, by decide, T.e_ShortLoop.ox, ha, ?_⟩
  dsimp only
  refine r_ost ?_
  repeat walk_at "w"
  exact ⟨a, T.a_ShortLoop, rfl, T.e_ShortLoop.ox, T.e_ShortLoop.no, .inl ⟨ha, fun dx n ne => q dx n ne⟩⟩
theorem ok_ShortLoop___init (T : Txt K mg) : FnOk P w K mg base CX0 1 T.a_ShortLoop___init T.fd_ShortLoop___init ["self", "name"] (sp_ShortLoop___init T) :=
  T.F_ShortLoop___init.ok (CX := CX0) sc_ShortLoop___init (len_ShortLoop___init T) fun cdv A outer s H vs Q E hr h => ⟨t_ShortLoop___init w T, PSs.nox (pss_cons (ps_expr (pe_ceinit (by rfl) T.m_CellError T.cr_CellError T.vi_CellError (pa_cons (pv 0) (pa_cons pe_str pa_nil))))
      (pss_one (ps_ost (pv 0) (pv 1)))), rd_ShortLoop___init T vs H Q E h⟩
end
end CP

namespace CP
open PySem L2
section
variable {P : Program} {w : World} {K : PySem.W.Frag} {mg : Str → Option Value} {base : Heap}
def sp_law_made (T : Txt K mg) : Sp := fun vs H Q _ => match vs with
  | [v] => ∀ l H' es, Same H H' → H' l = some (.lst (es.map V.ref)) → Errs H' (T.errs.take 13) (fldsK v) es → Q (.ref l) H'
  | _ => False
def t_law_made (w : World) (T : Txt K mg) : TS := tSeq (tAsg (tLst (tCons (tErr T.a_InvalidText (sp_InvalidText___init T) [] (tCons (tVar 0) (tNil))) (tCons (tErr T.a_InvalidForm (sp_InvalidForm___init T) [] (tCons (tVar 0) (tNil))) (tCons (tErr T.a_InvalidLetter (sp_InvalidLetter___init T) [] (tCons (tVar 0) (tNil))) (tCons (tErr T.a_InvalidNumber (sp_InvalidNumber___init T) [] (tCons (tVar 0) (tNil))) (tNil)))))) (gName 1)) (tSeq (tAsg (tOp rCat (tVar 1) (tLst (tCons (tErr T.a_InvalidLoops (sp_InvalidLoops___init T) [] (tCons (tVar 0) (tNil))) (tCons (tErr T.a_InvalidShape (sp_InvalidShape___init T) [] (tCons (tVar 0) (tNil))) (tCons (tErr T.a_InvalidValues (sp_InvalidValues___init T) [] (tCons (tVar 0) (tNil))) (tCons (tErr T.a_InvalidCell (sp_InvalidCell___init T) [] (tCons (tVar 0) (tNil))) (tNil))))))) (gName 1)) (tRet (tOp rCat (tVar 1) (tLst (tCons (tErr T.a_InvalidSides (sp_InvalidSides___init T) [] (tCons (tVar 0) (tNil))) (tCons (tErr T.a_InvalidTable (sp_InvalidTable___init T) [] (tCons (tVar 0) (tNil))) (tCons (tErr T.a_InvalidWalk (sp_InvalidWalk___init T) [] (tCons (tVar 0) (tNil))) (tCons (tErr T.a_ShortLoop (sp_ShortLoop___init T) [] (tCons (tVar 0) (tNil))) (tCons (tErr T.a_NoRoom (sp_NoRoom___init T) [] (tCons (tVar 0) (tNil))) (tNil))))))))))
theorem len_law_made (T : Txt K mg) : ∀ (vs : List V) (H : Hp) (Q : VK) (E : XK), sp_law_made T vs H Q E → vs.length = (["_law_thing_here"] : List Str).length := by
  intro vs H Q E h
  unfold sp_law_made at h
  split at h
  all_goals first | rfl | exact h.elim
theorem rd_law_made (T : Txt K mg) (vs : List V) (H : Hp) (Q : VK) (E : XK) (h : sp_law_made T vs H Q E) : t_law_made w T { nx := fun _ H' => Q .non H', rt := Q } (start ["_law_thing_here", "_law_found"] vs) H := by
  match vs, h with
  | [v], q =>
  have sz : sizeLine = 16777216 := rfl
  unfold t_law_made
  walk_at "st"
  have E := Errs.nil (H := H)
  have Z := Same.refl H
  repeat walk_at "w"
  refine r_err ?_
  repeat walk_at "w"
  refine ⟨by simp, fun e0 n0 => made_errS (f := "value") (fun _ _ z => z) n0 fun G0 y0 k0 => ?_⟩
  replace E := E.mono y0
  replace Z := Z.trans y0
  replace E := E.snoc k0
  repeat walk_at "w"
  refine r_err ?_
  repeat walk_at "w"
  refine ⟨by simp, fun e1 n1 => made_errS (f := "value") (fun _ _ z => z) n1 fun G1 y1 k1 => ?_⟩
  replace E := E.mono y1
  replace Z := Z.trans y1
  replace E := E.snoc k1
  repeat walk_at "w"
  refine r_err ?_
  repeat walk_at "w"
  refine ⟨by simp, fun e2 n2 => made_errS (f := "value") (fun _ _ z => z) n2 fun G2 y2 k2 => ?_⟩
  replace E := E.mono y2
  replace Z := Z.trans y2
  replace E := E.snoc k2
  repeat walk_at "w"
  refine r_err ?_
  repeat walk_at "w"
  refine ⟨by simp, fun e3 n3 => made_errS (f := "value") (fun _ _ z => z) n3 fun G3 y3 k3 => ?_⟩
  replace E := E.mono y3
  replace Z := Z.trans y3
  replace E := E.snoc k3
  repeat walk_at "w"
  rename_i p0 H0 m0 s0 L
  replace E := E.mono s0
  replace Z := Z.trans s0
  repeat walk_at "w"
  refine r_err ?_
  repeat walk_at "w"
  refine ⟨by simp, fun e4 n4 => made_errS (f := "value") (fun _ _ z => z) n4 fun G4 y4 k4 => ?_⟩
  replace E := E.mono y4
  replace Z := Z.trans y4
  replace E := E.snoc k4
  replace L := CP.Same.to y4 L
  repeat walk_at "w"
  refine r_err ?_
  repeat walk_at "w"
  refine ⟨by simp, fun e5 n5 => made_errS (f := "value") (fun _ _ z => z) n5 fun G5 y5 k5 => ?_⟩
  replace E := E.mono y5
  replace Z := Z.trans y5
  replace E := E.snoc k5
  replace L := CP.Same.to y5 L
  repeat walk_at "w"
  refine r_err ?_
  repeat walk_at "w"
  refine ⟨by simp, fun e6 n6 => made_errS (f := "value") (fun _ _ z => z) n6 fun G6 y6 k6 => ?_⟩
  replace E := E.mono y6
  replace Z := Z.trans y6
  replace E := E.snoc k6
  replace L := CP.Same.to y6 L
  repeat walk_at "w"
  refine r_err ?_
  repeat walk_at "w"
  refine ⟨by simp, fun e7 n7 => made_errS (f := "value") (fun _ _ z => z) n7 fun G7 y7 k7 => ?_⟩
  replace E := E.mono y7
  replace Z := Z.trans y7
  replace E := E.snoc k7
  replace L := CP.Same.to y7 L
  repeat walk_at "w"
  rename_i a1 A1 b1 c1 d1 p1 H1 m1 s1 h1
  replace E := E.mono c1
  replace Z := Z.trans c1
  replace E := E.mono s1
  replace Z := Z.trans s1
  clear L
  have L : H1 p1 = some (.lst [V.ref e0, V.ref e1, V.ref e2, V.ref e3, V.ref e4, V.ref e5, V.ref e6, V.ref e7]) := h1
  clear h1 d1
  repeat walk_at "w"
  refine r_err ?_
  repeat walk_at "w"
  refine ⟨by simp, fun e8 n8 => made_errS (f := "value") (fun _ _ z => z) n8 fun G8 y8 k8 => ?_⟩
  replace E := E.mono y8
  replace Z := Z.trans y8
  replace E := E.snoc k8
  replace L := CP.Same.to y8 L
  repeat walk_at "w"
  refine r_err ?_
  repeat walk_at "w"
  refine ⟨by simp, fun e9 n9 => made_errS (f := "value") (fun _ _ z => z) n9 fun G9 y9 k9 => ?_⟩
  replace E := E.mono y9
  replace Z := Z.trans y9
  replace E := E.snoc k9
  replace L := CP.Same.to y9 L
  repeat walk_at "w"
  refine r_err ?_
  repeat walk_at "w"
  refine ⟨by simp, fun e10 n10 => made_errS (f := "value") (fun _ _ z => z) n10 fun G10 y10 k10 => ?_⟩
  replace E := E.mono y10
  replace Z := Z.trans y10
  replace E := E.snoc k10
  replace L := CP.Same.to y10 L
  repeat walk_at "w"
  refine r_err ?_
  repeat walk_at "w"
  refine ⟨by simp, fun e11 n11 => made_errS (f := "name") (fun _ _ z => z) n11 fun G11 y11 k11 => ?_⟩
  replace E := E.mono y11
  replace Z := Z.trans y11
  replace E := E.snoc k11
  replace L := CP.Same.to y11 L
  repeat walk_at "w"
  refine r_err ?_
  repeat walk_at "w"
  refine ⟨by simp, fun e12 n12 => made_errS (f := "place") (fun _ _ z => z) n12 fun G12 y12 k12 => ?_⟩
  replace E := E.mono y12
  replace Z := Z.trans y12
  replace E := E.snoc k12
  replace L := CP.Same.to y12 L
  repeat walk_at "w"
  rename_i a2 A2 b2 c2 d2 p2 H2 m2 s2 h2
  replace E := E.mono c2
  replace Z := Z.trans c2
  replace E := E.mono s2
  replace Z := Z.trans s2
  clear L
  have L : H2 p2 = some (.lst [V.ref e0, V.ref e1, V.ref e2, V.ref e3, V.ref e4, V.ref e5, V.ref e6, V.ref e7, V.ref e8, V.ref e9, V.ref e10, V.ref e11, V.ref e12]) := h2
  clear h2 d2
  exact q _ _ [e0, e1, e2, e3, e4, e5, e6, e7, e8, e9, e10, e11, e12] Z L E

theorem ok_law_made (T : Txt K mg) : FnOk P w K mg base CX0 3 T.a_law_made T.fd_law_made ["_law_thing_here"] (sp_law_made T) :=
  T.F_law_made.ok sc_law_made (len_law_made T) fun cdv A outer s H vs Q E hr h => ⟨t_law_made w T, (pss_cons (ps_set (i := 1) sc_law_made.nd rfl (Or.inl rfl) (pe_lst (pa_cons (pe_err T.e_InvalidText.ox T.e_InvalidText.ini T.e_InvalidText.fn (ok_InvalidText___init T) (hr.mono (by decide)) (bd_InvalidText___init_2 T).choose_spec.2 (bd_InvalidText___init_2 T).choose_spec.1 pass0 (by rfl) T.m_InvalidText (pa_cons (pv 0) pa_nil)) (pa_cons (pe_err T.e_InvalidForm.ox T.e_InvalidForm.ini T.e_InvalidForm.fn (ok_InvalidForm___init T) (hr.mono (by decide)) (bd_InvalidForm___init_2 T).choose_spec.2 (bd_InvalidForm___init_2 T).choose_spec.1 pass0 (by rfl) T.m_InvalidForm (pa_cons (pv 0) pa_nil)) (pa_cons (pe_err T.e_InvalidLetter.ox T.e_InvalidLetter.ini T.e_InvalidLetter.fn (ok_InvalidLetter___init T) (hr.mono (by decide)) (bd_InvalidLetter___init_2 T).choose_spec.2 (bd_InvalidLetter___init_2 T).choose_spec.1 pass0 (by rfl) T.m_InvalidLetter (pa_cons (pv 0) pa_nil)) (pa_cons (pe_err T.e_InvalidNumber.ox T.e_InvalidNumber.ini T.e_InvalidNumber.fn (ok_InvalidNumber___init T) (hr.mono (by decide)) (bd_InvalidNumber___init_2 T).choose_spec.2 (bd_InvalidNumber___init_2 T).choose_spec.1 pass0 (by rfl) T.m_InvalidNumber (pa_cons (pv 0) pa_nil)) pa_nil))))))
      (pss_cons (ps_set (i := 1) sc_law_made.nd rfl (Or.inl rfl) (pe_op op_cat (pv 1) (pe_lst (pa_cons (pe_err T.e_InvalidLoops.ox T.e_InvalidLoops.ini T.e_InvalidLoops.fn (ok_InvalidLoops___init T) (hr.mono (by decide)) (bd_InvalidLoops___init_2 T).choose_spec.2 (bd_InvalidLoops___init_2 T).choose_spec.1 pass0 (by rfl) T.m_InvalidLoops (pa_cons (pv 0) pa_nil)) (pa_cons (pe_err T.e_InvalidShape.ox T.e_InvalidShape.ini T.e_InvalidShape.fn (ok_InvalidShape___init T) (hr.mono (by decide)) (bd_InvalidShape___init_2 T).choose_spec.2 (bd_InvalidShape___init_2 T).choose_spec.1 pass0 (by rfl) T.m_InvalidShape (pa_cons (pv 0) pa_nil)) (pa_cons (pe_err T.e_InvalidValues.ox T.e_InvalidValues.ini T.e_InvalidValues.fn (ok_InvalidValues___init T) (hr.mono (by decide)) (bd_InvalidValues___init_2 T).choose_spec.2 (bd_InvalidValues___init_2 T).choose_spec.1 pass0 (by rfl) T.m_InvalidValues (pa_cons (pv 0) pa_nil)) (pa_cons (pe_err T.e_InvalidCell.ox T.e_InvalidCell.ini T.e_InvalidCell.fn (ok_InvalidCell___init T) (hr.mono (by decide)) (bd_InvalidCell___init_2 T).choose_spec.2 (bd_InvalidCell___init_2 T).choose_spec.1 pass0 (by rfl) T.m_InvalidCell (pa_cons (pv 0) pa_nil)) pa_nil)))))))
      (pss_one (ps_ret (pe_op op_cat (pv 1) (pe_lst (pa_cons (pe_err T.e_InvalidSides.ox T.e_InvalidSides.ini T.e_InvalidSides.fn (ok_InvalidSides___init T) (hr.mono (by decide)) (bd_InvalidSides___init_2 T).choose_spec.2 (bd_InvalidSides___init_2 T).choose_spec.1 pass0 (by rfl) T.m_InvalidSides (pa_cons (pv 0) pa_nil)) (pa_cons (pe_err T.e_InvalidTable.ox T.e_InvalidTable.ini T.e_InvalidTable.fn (ok_InvalidTable___init T) (hr.mono (by decide)) (bd_InvalidTable___init_2 T).choose_spec.2 (bd_InvalidTable___init_2 T).choose_spec.1 pass0 (by rfl) T.m_InvalidTable (pa_cons (pv 0) pa_nil)) (pa_cons (pe_err T.e_InvalidWalk.ox T.e_InvalidWalk.ini T.e_InvalidWalk.fn (ok_InvalidWalk___init T) (hr.mono (by decide)) (bd_InvalidWalk___init_2 T).choose_spec.2 (bd_InvalidWalk___init_2 T).choose_spec.1 pass0 (by rfl) T.m_InvalidWalk (pa_cons (pv 0) pa_nil)) (pa_cons (pe_err T.e_ShortLoop.ox T.e_ShortLoop.ini T.e_ShortLoop.fn (ok_ShortLoop___init T) (hr.mono (by decide)) (bd_ShortLoop___init_2 T).choose_spec.2 (bd_ShortLoop___init_2 T).choose_spec.1 pass0 (by rfl) T.m_ShortLoop (pa_cons (pv 0) pa_nil)) (pa_cons (pe_err T.e_NoRoom.ox T.e_NoRoom.ini T.e_NoRoom.fn (ok_NoRoom___init T) (hr.mono (by decide)) (bd_NoRoom___init_2 T).choose_spec.2 (bd_NoRoom___init_2 T).choose_spec.1 pass0 (by rfl) T.m_NoRoom (pa_cons (pv 0) pa_nil)) pa_nil))))))))))), rd_law_made T vs H Q E h⟩
end
end CP

namespace CP
open PySem L2
section
variable {P : Program} {w : World} {K : PySem.W.Frag} {mg : Str → Option Value} {base : Heap}
def sp_law_by_name (T : Txt K mg) : Sp := fun vs H Q _ => match vs with
  | [v] => ∀ l H' es, Same H H' → H' l = some (.lst (es.map V.ref)) → Errs H' (T.errs.take 13) (fldsK v) es → Q (.ref l) H'
  | _ => False
def t_law_by_name (w : World) (T : Txt K mg) : TS := tSeq (tAsg (tLst (tCons (tErrK T.a_InvalidText (["value"] : List Str).length (sp_InvalidText___init T) (fun vs zs => vs ++ zs) (tCons (tVar 0) (tNil))) (tCons (tErrK T.a_InvalidForm (["value"] : List Str).length (sp_InvalidForm___init T) (fun vs zs => vs ++ zs) (tCons (tVar 0) (tNil))) (tCons (tErrK T.a_InvalidLetter (["value"] : List Str).length (sp_InvalidLetter___init T) (fun vs zs => vs ++ zs) (tCons (tVar 0) (tNil))) (tNil))))) (gName 1)) (tSeq (tAsg (tOp rCat (tVar 1) (tLst (tCons (tErrK T.a_InvalidNumber (["value"] : List Str).length (sp_InvalidNumber___init T) (fun vs zs => vs ++ zs) (tCons (tVar 0) (tNil))) (tCons (tErrK T.a_InvalidLoops (["value"] : List Str).length (sp_InvalidLoops___init T) (fun vs zs => vs ++ zs) (tCons (tVar 0) (tNil))) (tCons (tErrK T.a_InvalidShape (["value"] : List Str).length (sp_InvalidShape___init T) (fun vs zs => vs ++ zs) (tCons (tVar 0) (tNil))) (tNil)))))) (gName 1)) (tSeq (tAsg (tOp rCat (tVar 1) (tLst (tCons (tErrK T.a_InvalidValues (["value"] : List Str).length (sp_InvalidValues___init T) (fun vs zs => vs ++ zs) (tCons (tVar 0) (tNil))) (tCons (tErrK T.a_InvalidCell (["value"] : List Str).length (sp_InvalidCell___init T) (fun vs zs => vs ++ zs) (tCons (tVar 0) (tNil))) (tCons (tErrK T.a_InvalidSides (["value"] : List Str).length (sp_InvalidSides___init T) (fun vs zs => vs ++ zs) (tCons (tVar 0) (tNil))) (tNil)))))) (gName 1)) (tSeq (tAsg (tOp rCat (tVar 1) (tLst (tCons (tErrK T.a_InvalidTable (["value"] : List Str).length (sp_InvalidTable___init T) (fun vs zs => vs ++ zs) (tCons (tVar 0) (tNil))) (tCons (tErrK T.a_InvalidWalk (["value"] : List Str).length (sp_InvalidWalk___init T) (fun vs zs => vs ++ zs) (tCons (tVar 0) (tNil))) (tNil))))) (gName 1)) (tRet (tOp rCat (tVar 1) (tLst (tCons (tErrK T.a_ShortLoop (["name"] : List Str).length (sp_ShortLoop___init T) (fun vs zs => vs ++ zs) (tCons (tVar 0) (tNil))) (tCons (tErrK T.a_NoRoom (["place"] : List Str).length (sp_NoRoom___init T) (fun vs zs => vs ++ zs) (tCons (tVar 0) (tNil))) (tNil)))))))))
theorem len_law_by_name (T : Txt K mg) : ∀ (vs : List V) (H : Hp) (Q : VK) (E : XK), sp_law_by_name T vs H Q E → vs.length = (["_law_thing_here"] : List Str).length := by
  intro vs H Q E h
  unfold sp_law_by_name at h
  split at h
  all_goals first | rfl | exact h.elim
theorem rd_law_by_name (T : Txt K mg) (vs : List V) (H : Hp) (Q : VK) (E : XK) (h : sp_law_by_name T vs H Q E) : t_law_by_name w T { nx := fun _ H' => Q .non H', rt := Q } (start ["_law_thing_here", "_law_found"] vs) H := by
  match vs, h with
  | [v], q =>
  have sz : sizeLine = 16777216 := rfl
  unfold t_law_by_name
  walk_at "st"
  have E := Errs.nil (H := H)
  have Z := Same.refl H
  repeat walk_at "w"
  refine r_errK ?_
  repeat walk_at "w"
  refine ⟨by simp, fun e0 n0 => made_errS (f := "value") (fun _ _ z => z) n0 fun G0 y0 k0 => ?_⟩
  replace E := E.mono y0
  replace Z := Z.trans y0
  replace E := E.snoc k0
  repeat walk_at "w"
  refine r_errK ?_
  repeat walk_at "w"
  refine ⟨by simp, fun e1 n1 => made_errS (f := "value") (fun _ _ z => z) n1 fun G1 y1 k1 => ?_⟩
  replace E := E.mono y1
  replace Z := Z.trans y1
  replace E := E.snoc k1
  repeat walk_at "w"
  refine r_errK ?_
  repeat walk_at "w"
  refine ⟨by simp, fun e2 n2 => made_errS (f := "value") (fun _ _ z => z) n2 fun G2 y2 k2 => ?_⟩
  replace E := E.mono y2
  replace Z := Z.trans y2
  replace E := E.snoc k2
  repeat walk_at "w"
  rename_i p0 H0 m0 s0 L
  replace E := E.mono s0
  replace Z := Z.trans s0
  repeat walk_at "w"
  refine r_errK ?_
  repeat walk_at "w"
  refine ⟨by simp, fun e3 n3 => made_errS (f := "value") (fun _ _ z => z) n3 fun G3 y3 k3 => ?_⟩
  replace E := E.mono y3
  replace Z := Z.trans y3
  replace E := E.snoc k3
  replace L := CP.Same.to y3 L
  repeat walk_at "w"
  refine r_errK ?_
  repeat walk_at "w"
  refine ⟨by simp, fun e4 n4 => made_errS (f := "value") (fun _ _ z => z) n4 fun G4 y4 k4 => ?_⟩
  replace E := E.mono y4
  replace Z := Z.trans y4
  replace E := E.snoc k4
  replace L := CP.Same.to y4 L
  repeat walk_at "w"
  refine r_errK ?_
  repeat walk_at "w"
  refine ⟨by simp, fun e5 n5 => made_errS (f := "value") (fun _ _ z => z) n5 fun G5 y5 k5 => ?_⟩
  replace E := E.mono y5
  replace Z := Z.trans y5
  replace E := E.snoc k5
  replace L := CP.Same.to y5 L
  repeat walk_at "w"
  rename_i a1 A1 b1 c1 d1 p1 H1 m1 s1 h1
  replace E := E.mono c1
  replace Z := Z.trans c1
  replace E := E.mono s1
  replace Z := Z.trans s1
  clear L
  have L : H1 p1 = some (.lst [V.ref e0, V.ref e1, V.ref e2, V.ref e3, V.ref e4, V.ref e5]) := h1
  clear h1 d1
  repeat walk_at "w"
  refine r_errK ?_
  repeat walk_at "w"
  refine ⟨by simp, fun e6 n6 => made_errS (f := "value") (fun _ _ z => z) n6 fun G6 y6 k6 => ?_⟩
  replace E := E.mono y6
  replace Z := Z.trans y6
  replace E := E.snoc k6
  replace L := CP.Same.to y6 L
  repeat walk_at "w"
  refine r_errK ?_
  repeat walk_at "w"
  refine ⟨by simp, fun e7 n7 => made_errS (f := "value") (fun _ _ z => z) n7 fun G7 y7 k7 => ?_⟩
  replace E := E.mono y7
  replace Z := Z.trans y7
  replace E := E.snoc k7
  replace L := CP.Same.to y7 L
  repeat walk_at "w"
  refine r_errK ?_
  repeat walk_at "w"
  refine ⟨by simp, fun e8 n8 => made_errS (f := "value") (fun _ _ z => z) n8 fun G8 y8 k8 => ?_⟩
  replace E := E.mono y8
  replace Z := Z.trans y8
  replace E := E.snoc k8
  replace L := CP.Same.to y8 L
  repeat walk_at "w"
  rename_i a2 A2 b2 c2 d2 p2 H2 m2 s2 h2
  replace E := E.mono c2
  replace Z := Z.trans c2
  replace E := E.mono s2
  replace Z := Z.trans s2
  clear L
  have L : H2 p2 = some (.lst [V.ref e0, V.ref e1, V.ref e2, V.ref e3, V.ref e4, V.ref e5, V.ref e6, V.ref e7, V.ref e8]) := h2
  clear h2 d2
  repeat walk_at "w"
  refine r_errK ?_
  repeat walk_at "w"
  refine ⟨by simp, fun e9 n9 => made_errS (f := "value") (fun _ _ z => z) n9 fun G9 y9 k9 => ?_⟩
  replace E := E.mono y9
  replace Z := Z.trans y9
  replace E := E.snoc k9
  replace L := CP.Same.to y9 L
  repeat walk_at "w"
  refine r_errK ?_
  repeat walk_at "w"
  refine ⟨by simp, fun e10 n10 => made_errS (f := "value") (fun _ _ z => z) n10 fun G10 y10 k10 => ?_⟩
  replace E := E.mono y10
  replace Z := Z.trans y10
  replace E := E.snoc k10
  replace L := CP.Same.to y10 L
  repeat walk_at "w"
  rename_i a3 A3 b3 c3 d3 p3 H3 m3 s3 h3
  replace E := E.mono c3
  replace Z := Z.trans c3
  replace E := E.mono s3
  replace Z := Z.trans s3
  clear L
  have L : H3 p3 = some (.lst [V.ref e0, V.ref e1, V.ref e2, V.ref e3, V.ref e4, V.ref e5, V.ref e6, V.ref e7, V.ref e8, V.ref e9, V.ref e10]) := h3
  clear h3 d3
  repeat walk_at "w"
  refine r_errK ?_
  repeat walk_at "w"
  refine ⟨by simp, fun e11 n11 => made_errS (f := "name") (fun _ _ z => z) n11 fun G11 y11 k11 => ?_⟩
  replace E := E.mono y11
  replace Z := Z.trans y11
  replace E := E.snoc k11
  replace L := CP.Same.to y11 L
  repeat walk_at "w"
  refine r_errK ?_
  repeat walk_at "w"
  refine ⟨by simp, fun e12 n12 => made_errS (f := "place") (fun _ _ z => z) n12 fun G12 y12 k12 => ?_⟩
  replace E := E.mono y12
  replace Z := Z.trans y12
  replace E := E.snoc k12
  replace L := CP.Same.to y12 L
  repeat walk_at "w"
  rename_i a4 A4 b4 c4 d4 p4 H4 m4 s4 h4
  replace E := E.mono c4
  replace Z := Z.trans c4
  replace E := E.mono s4
  replace Z := Z.trans s4
  clear L
  have L : H4 p4 = some (.lst [V.ref e0, V.ref e1, V.ref e2, V.ref e3, V.ref e4, V.ref e5, V.ref e6, V.ref e7, V.ref e8, V.ref e9, V.ref e10, V.ref e11, V.ref e12]) := h4
  clear h4 d4
  exact q _ _ [e0, e1, e2, e3, e4, e5, e6, e7, e8, e9, e10, e11, e12] Z L E

theorem ok_law_by_name (T : Txt K mg) : FnOk P w K mg base CX0 3 T.a_law_by_name T.fd_law_by_name ["_law_thing_here"] (sp_law_by_name T) :=
  T.F_law_by_name.ok sc_law_by_name (len_law_by_name T) fun cdv A outer s H vs Q E hr h => ⟨t_law_by_name w T, (pss_cons (ps_set (i := 1) sc_law_by_name.nd rfl (Or.inl rfl) (pe_lst (pa_cons (pe_errK (gV := fun vs zs => vs ++ zs) T.e_InvalidText.ox T.e_InvalidText.ini T.e_InvalidText.fn (ok_InvalidText___init T) (hr.mono (by decide)) (kbc_InvalidText___init T) pass0 (by rfl) T.m_InvalidText (pk_cons (pv 0) pk_nil)) (pa_cons (pe_errK (gV := fun vs zs => vs ++ zs) T.e_InvalidForm.ox T.e_InvalidForm.ini T.e_InvalidForm.fn (ok_InvalidForm___init T) (hr.mono (by decide)) (kbc_InvalidForm___init T) pass0 (by rfl) T.m_InvalidForm (pk_cons (pv 0) pk_nil)) (pa_cons (pe_errK (gV := fun vs zs => vs ++ zs) T.e_InvalidLetter.ox T.e_InvalidLetter.ini T.e_InvalidLetter.fn (ok_InvalidLetter___init T) (hr.mono (by decide)) (kbc_InvalidLetter___init T) pass0 (by rfl) T.m_InvalidLetter (pk_cons (pv 0) pk_nil)) pa_nil)))))
      (pss_cons (ps_set (i := 1) sc_law_by_name.nd rfl (Or.inl rfl) (pe_op op_cat (pv 1) (pe_lst (pa_cons (pe_errK (gV := fun vs zs => vs ++ zs) T.e_InvalidNumber.ox T.e_InvalidNumber.ini T.e_InvalidNumber.fn (ok_InvalidNumber___init T) (hr.mono (by decide)) (kbc_InvalidNumber___init T) pass0 (by rfl) T.m_InvalidNumber (pk_cons (pv 0) pk_nil)) (pa_cons (pe_errK (gV := fun vs zs => vs ++ zs) T.e_InvalidLoops.ox T.e_InvalidLoops.ini T.e_InvalidLoops.fn (ok_InvalidLoops___init T) (hr.mono (by decide)) (kbc_InvalidLoops___init T) pass0 (by rfl) T.m_InvalidLoops (pk_cons (pv 0) pk_nil)) (pa_cons (pe_errK (gV := fun vs zs => vs ++ zs) T.e_InvalidShape.ox T.e_InvalidShape.ini T.e_InvalidShape.fn (ok_InvalidShape___init T) (hr.mono (by decide)) (kbc_InvalidShape___init T) pass0 (by rfl) T.m_InvalidShape (pk_cons (pv 0) pk_nil)) pa_nil))))))
      (pss_cons (ps_set (i := 1) sc_law_by_name.nd rfl (Or.inl rfl) (pe_op op_cat (pv 1) (pe_lst (pa_cons (pe_errK (gV := fun vs zs => vs ++ zs) T.e_InvalidValues.ox T.e_InvalidValues.ini T.e_InvalidValues.fn (ok_InvalidValues___init T) (hr.mono (by decide)) (kbc_InvalidValues___init T) pass0 (by rfl) T.m_InvalidValues (pk_cons (pv 0) pk_nil)) (pa_cons (pe_errK (gV := fun vs zs => vs ++ zs) T.e_InvalidCell.ox T.e_InvalidCell.ini T.e_InvalidCell.fn (ok_InvalidCell___init T) (hr.mono (by decide)) (kbc_InvalidCell___init T) pass0 (by rfl) T.m_InvalidCell (pk_cons (pv 0) pk_nil)) (pa_cons (pe_errK (gV := fun vs zs => vs ++ zs) T.e_InvalidSides.ox T.e_InvalidSides.ini T.e_InvalidSides.fn (ok_InvalidSides___init T) (hr.mono (by decide)) (kbc_InvalidSides___init T) pass0 (by rfl) T.m_InvalidSides (pk_cons (pv 0) pk_nil)) pa_nil))))))
      (pss_cons (ps_set (i := 1) sc_law_by_name.nd rfl (Or.inl rfl) (pe_op op_cat (pv 1) (pe_lst (pa_cons (pe_errK (gV := fun vs zs => vs ++ zs) T.e_InvalidTable.ox T.e_InvalidTable.ini T.e_InvalidTable.fn (ok_InvalidTable___init T) (hr.mono (by decide)) (kbc_InvalidTable___init T) pass0 (by rfl) T.m_InvalidTable (pk_cons (pv 0) pk_nil)) (pa_cons (pe_errK (gV := fun vs zs => vs ++ zs) T.e_InvalidWalk.ox T.e_InvalidWalk.ini T.e_InvalidWalk.fn (ok_InvalidWalk___init T) (hr.mono (by decide)) (kbc_InvalidWalk___init T) pass0 (by rfl) T.m_InvalidWalk (pk_cons (pv 0) pk_nil)) pa_nil)))))
      (pss_one (ps_ret (pe_op op_cat (pv 1) (pe_lst (pa_cons (pe_errK (gV := fun vs zs => vs ++ zs) T.e_ShortLoop.ox T.e_ShortLoop.ini T.e_ShortLoop.fn (ok_ShortLoop___init T) (hr.mono (by decide)) (kbc_ShortLoop___init T) pass0 (by rfl) T.m_ShortLoop (pk_cons (pv 0) pk_nil)) (pa_cons (pe_errK (gV := fun vs zs => vs ++ zs) T.e_NoRoom.ox T.e_NoRoom.ini T.e_NoRoom.fn (ok_NoRoom___init T) (hr.mono (by decide)) (kbc_NoRoom___init T) pass0 (by rfl) T.m_NoRoom (pk_cons (pv 0) pk_nil)) pa_nil)))))))))), rd_law_by_name T vs H Q E h⟩
end
end CP

namespace CP
open PySem L2
section
variable {P : Program} {w : World} {K : PySem.W.Frag} {mg : Str → Option Value} {base : Heap}
theorem cut_ints0 (ns : List Int) (lo hi : Option Int) : ∃ ms : List Int, cutV (ns.map V.int) lo hi = ms.map V.int := by
  unfold cutV
  rw [← List.map_drop, ← List.map_take]
  exact ⟨_, rfl⟩
theorem r_exc0E {C : Addr} {σ : L2.St} {H : Hp} {Q : VK} (q : ∀ a H', Same H H' → ErrK H' a C [] → Q (.ref a) H') : tExc0 C σ H Q := fun _ n => made_err0 q n
theorem ErrK.sb {H H' : Hp} {a D p : Addr} {fs : List (Str × V)} {xs : List V} (h : ErrK H a D fs) (hp : H p = some (.lst xs)) (s : SB p H H') : ErrK H' a D fs := by
  obtain ⟨d, h1, h2⟩ := h
  have k : ∀ b o, H b = some o → (∀ ys, o ≠ .lst ys) → H' b = some o := fun b o e z => s _ _ (fun y => by subst y; rw [hp] at e; exact z _ (Option.some.inj e).symm) e
  refine ⟨d, h1.imp (fun e => k _ _ e fun ys z => by cases z) (fun e => k _ _ e fun ys z => by cases z), h2.imp id fun ⟨dx, e, h3⟩ => ⟨dx, e, h3.imp (fun e => k _ _ e fun ys z => by cases z) (fun e => k _ _ e fun ys z => by cases z)⟩⟩
theorem Errs.sb {H H' : Hp} {cs : List Addr} {fs : List (List (Str × V))} {es : List Addr} {p : Addr} {xs : List V} (h : Errs H cs fs es) (hp : H p = some (.lst xs)) (s : SB p H H') : Errs H' cs fs es :=
  ⟨h.1, h.2.1, fun i e c f a b d => (h.2.2 i e c f a b d).sb hp s⟩
def Some13 (T : Txt K mg) (H : Hp) (x : V) : Prop := ∃ l es fs, x = .ref l ∧ H l = some (.lst (es.map V.ref)) ∧ Errs H (T.errs.take 13) fs es
/-- the text of 26 equal items -/
def txt26 (d : PyData) : Str := (PyData.list (List.replicate 26 d)).shown
theorem rep_all {d : PyData} (h : ShwW d) : ∀ n : Nat, n ≤ 30 → PyData.showableAll (List.replicate n d) = true ∧ PyData.depthAll (List.replicate n d) ≤ 3 ∧ PyData.leavesShortAll 40 (List.replicate n d) = true ∧ PyData.weightAll (List.replicate n d) ≤ 1001 * n
  | 0, _ => ⟨rfl, by simp [PyData.depthAll], rfl, by simp [PyData.weightAll]⟩
  | n + 1, z => by
    obtain ⟨a, b, c, e⟩ := rep_all h n (by omega)
    have w := h.light
    have f := h.flat
    refine ⟨by simp [List.replicate_succ, PyData.showableAll, a, h.show_], ?_, by simp [List.replicate_succ, PyData.leavesShortAll, c, h.short], ?_⟩
    · simp only [List.replicate_succ, PyData.depthAll]
      omega
    · simp only [List.replicate_succ, PyData.weightAll]
      omega
theorem rep_dict {d : PyData} (h : d.hasDict = false) : ∀ n : Nat, PyData.hasDictAll (List.replicate n d) = false
  | 0 => rfl
  | n + 1 => by simp [List.replicate_succ, PyData.hasDictAll, h, rep_dict h n]
theorem DpA_rep {K : PySem.W.Frag} {H : Hp} {v : V} {d : PyData} (h : Dp K H v d) : ∀ n : Nat, DpAll K H (List.replicate n v) (List.replicate n d)
  | 0 => .nil
  | n + 1 => .cons h (DpA_rep h n)
theorem repr26 {K : PySem.W.Frag} {H : Hp} {Q : VK} {p : Addr} {v : V} {d : PyData} (s : ShwW d) (ne : p ≠ sysModules) (hp : H p = some (.lst (List.replicate 26 v))) (h : (Dp K H v d ∧ d.hasDict = false) ∨ DpD H v d) (q : Q (.str (txt26 d)) H) : rReprD K [.ref p] H Q := by
  obtain ⟨a, b, c, e⟩ := rep_all s 26 (by omega)
  refine ⟨p, .list (List.replicate 26 d), rfl, ?_, by simp only [PyData.showable]; exact a, by simp only [PyData.depth]; omega, ?_, q⟩
  · rcases h with ⟨h, n⟩ | h
    · exact .inl ⟨.lst (.of hp) (DpA_rep h 26), by simp only [PyData.hasDict]; exact rep_dict n 26⟩
    · exact .inr (.lst (.of hp) ne (DpDs.rep h 26))
  · have := PyData.shown_le 40 (by decide) (.list (List.replicate 26 d)) (by simp only [PyData.leavesShort]; exact c)
    have w : (PyData.list (List.replicate 26 d)).weight ≤ 1001 * 26 := by simp only [PyData.weight]; exact e
    have sz : sizeLine = 16777216 := rfl
    omega
def sp_law (_ : Txt K mg) : Sp := fun vs H Q _ => ∃ (a : Addr) (ns : List Int), vs = [.ref a] ∧ SqL K H a (ns.map V.int) ∧ ns.length ≤ 63 ∧ ∀ H', Q (.bl true) H'
def sp_top (K : PySem.W.Frag) : Sp := fun vs H Q _ => ∃ (a : Addr) (ns : List Int), vs = [.ref a] ∧ SqL K H a (ns.map V.int) ∧ ns.length ≤ 63 ∧ ∀ H', Q (.bl true) H'
theorem sp_law_top (T : Txt K mg) (vs : List V) (H : Hp) (Q : VK) (E : XK) (z : sp_top K vs H Q E) : sp_law T vs H Q E := z
def t_law (w : World) (T : Txt K mg) : TS := tSeq (tIfS (tOr (tTest (tOp (rIn K false) (tC (.bl true)) (tCall (sp_law_classes T) [] E0 (tCons (tExc0 T.a_CellError) (tNil))))) (tNot (tB (tCB (rErrIs K) (tCons (tExc0 T.a_CellError) (tCons (tC (.ty "ValueError")) (tNil))))))) (tRet (tC (.bl false))) (tNext)) (tSeq (tFor (iRng1 (tCons (tCB oMax2 (tCons (tC (.int 1)) (tCons (tCB (rLenA K) (tCons (tSl (rSlL K) (tVar 0) tNoPart (tPart (tC (.int 20)))) (tNil))) (tNil)))) (tNil))) (gName 1) (tSeq (tAsg (tCall (sp_law_thing T) [] E0 (tCons (tCB (rSum K) (tCons (tSl (rSlL K) (tVar 0) (tPart (tVar 1)) (tPart (tOp oAdd (tVar 1) (tC (.int 1))))) (tNil))) (tCons (tVar 1) (tNil)))) (gName 2)) (tSeq (tPar 3 4 (tCons (tCall (sp_law_made T) [] E0 (tCons (tVar 2) (tNil))) (tCons (tCall (sp_law_by_name T) [] E0 (tCons (tVar 2) (tNil))) (tNil)))) (tSeq (tAsg (tLst (tCons (tErr T.a_InvalidText (sp_InvalidText___init T) [.non] tNil) (tCons (tErr T.a_InvalidForm (sp_InvalidForm___init T) [.non] tNil) (tCons (tErr T.a_InvalidLetter (sp_InvalidLetter___init T) [.non] tNil) (tCons (tErr T.a_InvalidNumber (sp_InvalidNumber___init T) [.non] tNil) (tCons (tErr T.a_InvalidLoops (sp_InvalidLoops___init T) [.non] tNil) (tCons (tErr T.a_InvalidShape (sp_InvalidShape___init T) [.non] tNil) (tNil)))))))) (gName 5)) (tSeq (tAsg (tOp rCat (tVar 5) (tLst (tCons (tErr T.a_InvalidValues (sp_InvalidValues___init T) [.non] tNil) (tCons (tErr T.a_InvalidCell (sp_InvalidCell___init T) [.non] tNil) (tCons (tErr T.a_InvalidSides (sp_InvalidSides___init T) [.non] tNil) (tCons (tErr T.a_InvalidTable (sp_InvalidTable___init T) [.non] tNil) (tCons (tErr T.a_InvalidWalk (sp_InvalidWalk___init T) [.non] tNil) (tCons (tErr T.a_ShortLoop (sp_ShortLoop___init T) [.non] tNil) (tNil))))))))) (gName 5)) (tSeq (tDrop (tBM K "list" rAppend (tVar 5) (tCons (tErr T.a_NoRoom (sp_NoRoom___init T) [.non] tNil) (tNil)))) (tSeq (tFor (iTup K (tTup (tCons (tVar 3) (tCons (tVar 4) (tCons (tVar 5) (tNil)))))) (gName 6) (tIfS (tNot (tB (tCall (sp_law_placed T) [] E0 (tCons (tOp rCat (tVar 6) (tLst (tCons (tExc0 T.a_MismatchedShapes) (tCons (tExc0 T.a_SharedPlaces) (tCons (tExc0 T.a_NothingToUndo) (tNil)))))) (tNil))))) (tRet (tC (.bl false))) (tNext))) (tSeq (tIfS (tTest (tOp (rNeX K) (tCB (rReprD K) (tCons (tOp rCatX (tCall (sp_law_fields T) [] E0 (tCons (tVar 3) (tNil))) (tCall (sp_law_fields T) [] E0 (tCons (tVar 4) (tNil)))) (tNil))) (tCB (rReprD K) (tCons (tOp rRepX (tLst (tCons (tVar 2) (tNil))) (tC (.int 26))) (tNil))))) (tRet (tC (.bl false))) (tNext)) (tSeq (tIfS (tTest (tOp (rNeX K) (tLc (iList K (tCall (sp_law_fields T) [] E0 (tCons (tVar 5) (tNil)))) (gName 7) (tTest (tOp rNotN (tVar 7) (tC .non))) (tVar 7) [7]) (tLst (tNil)))) (tRet (tC (.bl false))) (tNext)) (tIfS (tB (tCB (rIsi K) (tCons (tVar 2) (tCons (tC (.ty "list")) (tNil))))) (tSeq (tDrop (tBM K "list" rAppend (tVar 2) (tCons (tC (.str "later")) (tNil)))) (tIfS (tTest (tOp (rNeX K) (tCB (rReprD K) (tCons (tOp rCatX (tCall (sp_law_fields T) [] E0 (tCons (tVar 3) (tNil))) (tCall (sp_law_fields T) [] E0 (tCons (tVar 4) (tNil)))) (tNil))) (tCB (rReprD K) (tCons (tOp rRepX (tLst (tCons (tVar 2) (tNil))) (tC (.int 26))) (tNil))))) (tRet (tC (.bl false))) (tNext))) (tNext))))))))))) (tRet (tC (.bl true))))
theorem len_law (T : Txt K mg) : ∀ (vs : List V) (H : Hp) (Q : VK) (E : XK), sp_law T vs H Q E → vs.length = (["_law_script"] : List Str).length := by
  rintro vs H Q E ⟨a, ns, rfl, h⟩
  rfl
theorem rd_law (T : Txt K mg) (vs : List V) (H : Hp) (Q : VK) (E : XK) (h : sp_law T vs H Q E) : t_law w T { nx := fun _ H' => Q .non H', rt := Q } (start ["_law_script", "_law_at", "_law_thing_here", "_law_errors", "_law_by_name_here", "_law_bare", "_law_some", "_law_field"] vs) H := by
  obtain ⟨a, ns, rfl, ha, hn, q⟩ := h
  have sz : sizeLine = 16777216 := rfl
  unfold t_law
  walk_at "st"
  repeat walk_at "w"
  have ce : (T.errs ++ [T.a_CellError])[16]? = some T.a_CellError := rfl
  refine r_exc0E fun e H1 s1 k1 => ?_
  repeat walk_at "w"
  refine ⟨e, _, 16, [], rfl, k1, ce, fun l H2 s2 h2 => ?_⟩
  repeat walk_at "w"
  refine r_in h2 rfl (by decide) ?_
  refine ⟨false, by rfl, ?_⟩
  repeat walk_at "w"
  refine r_exc0E fun e H3 s3 k3 => ?_
  repeat walk_at "w"
  refine ⟨e, _, [], _, _, _, rfl, k3, T.ecs ce, .ty _, (kitTab.top T.kt ce).2, ?_⟩
  refine ⟨true, rfl, ?_⟩
  repeat walk_at "w"
  have S0 : Same H H3 := (s1.trans s2).trans s3
  clear k1 h2 s1 s2 s3 k3
  rename_i l0 H0 l1 s0 l2
  have hc := cutV_length (ns.map V.int) none (some 20)
  rw [List.length_map] at hc
  generalize (cutV (ns.map V.int) none (some 20)).length = k at hc ⊢
  have hj : -(2 ^ 62) ≤ (if (k : Int) > 1 then (k : Int) else 1) ∧ (if (k : Int) > 1 then (k : Int) else 1) < 2 ^ 62 ∧ (if (k : Int) > 1 then (k : Int) else 1) < 2 ^ 10 := by split <;> omega
  generalize (if (k : Int) > 1 then (k : Int) else 1) = j at hj ⊢
  refine r_rng hj.1 hj.2.1 ?_
  refine for_range (fun i σ H' => Same H H' ∧ ∃ x1 x2 x3 x4 x5 x6 x7, σ = [some (.ref a), x1, x2, x3, x4, x5, x6, x7]) ⟨S0.trans s0, _, _, _, _, _, _, _, rfl⟩ ?_ ?_
  · rintro i σ H4 hi ⟨s4, x1, x2, x3, x4, x5, x6, x7, rfl⟩
    clear S0 s0 l2 l1
    repeat walk_at "w"
    rename_i l H5 l1 s5 l5
    obtain ⟨ms, e⟩ := cut_ints0 ns (some (0 + (i : Int))) (some (0 + (i : Int) + 1))
    rw [e] at l5
    refine r_sum (.of l5) ?_
    generalize ms.sum = m0
    clear e l5
    repeat walk_at "w"
    refine ⟨m0, 0 + (i : Int), rfl, by omega, fun v H6 s6 fv tv => ?_⟩
    repeat walk_at "w"
    refine fun lA H7 eA s7 LA EA => ?_
    repeat walk_at "w"
    refine fun lB H8 eB s8 LB EB => ?_
    replace LA := CP.Same.to s8 LA
    replace EA := EA.mono s8
    repeat walk_at "w"
    have E := Errs.nil (H := H8)
    have Z := Same.refl H8
    repeat walk_at "w"
    refine r_err ?_
    repeat walk_at "w"
    refine ⟨by simp, fun e0 n0 => made_errS (f := "value") (fun _ _ z => z) n0 fun G0 y0 k0 => ?_⟩
    replace E := E.mono y0
    replace Z := Z.trans y0
    replace E := E.snoc k0
    repeat walk_at "w"
    refine r_err ?_
    repeat walk_at "w"
    refine ⟨by simp, fun e1 n1 => made_errS (f := "value") (fun _ _ z => z) n1 fun G1 y1 k1 => ?_⟩
    replace E := E.mono y1
    replace Z := Z.trans y1
    replace E := E.snoc k1
    repeat walk_at "w"
    refine r_err ?_
    repeat walk_at "w"
    refine ⟨by simp, fun e2 n2 => made_errS (f := "value") (fun _ _ z => z) n2 fun G2 y2 k2 => ?_⟩
    replace E := E.mono y2
    replace Z := Z.trans y2
    replace E := E.snoc k2
    repeat walk_at "w"
    refine r_err ?_
    repeat walk_at "w"
    refine ⟨by simp, fun e3 n3 => made_errS (f := "value") (fun _ _ z => z) n3 fun G3 y3 k3 => ?_⟩
    replace E := E.mono y3
    replace Z := Z.trans y3
    replace E := E.snoc k3
    repeat walk_at "w"
    refine r_err ?_
    repeat walk_at "w"
    refine ⟨by simp, fun e4 n4 => made_errS (f := "value") (fun _ _ z => z) n4 fun G4 y4 k4 => ?_⟩
    replace E := E.mono y4
    replace Z := Z.trans y4
    replace E := E.snoc k4
    repeat walk_at "w"
    refine r_err ?_
    repeat walk_at "w"
    refine ⟨by simp, fun e5 n5 => made_errS (f := "value") (fun _ _ z => z) n5 fun G5 y5 k5 => ?_⟩
    replace E := E.mono y5
    replace Z := Z.trans y5
    replace E := E.snoc k5
    repeat walk_at "w"
    rename_i p0 J0 m0 t0 L
    replace E := E.mono t0
    replace Z := Z.trans t0
    repeat walk_at "w"
    refine r_err ?_
    repeat walk_at "w"
    refine ⟨by simp, fun e6 n6 => made_errS (f := "value") (fun _ _ z => z) n6 fun G6 y6 k6 => ?_⟩
    replace E := E.mono y6
    replace Z := Z.trans y6
    replace E := E.snoc k6
    replace L := CP.Same.to y6 L
    repeat walk_at "w"
    refine r_err ?_
    repeat walk_at "w"
    refine ⟨by simp, fun e7 n7 => made_errS (f := "value") (fun _ _ z => z) n7 fun G7 y7 k7 => ?_⟩
    replace E := E.mono y7
    replace Z := Z.trans y7
    replace E := E.snoc k7
    replace L := CP.Same.to y7 L
    repeat walk_at "w"
    refine r_err ?_
    repeat walk_at "w"
    refine ⟨by simp, fun e8 n8 => made_errS (f := "value") (fun _ _ z => z) n8 fun G8 y8 k8 => ?_⟩
    replace E := E.mono y8
    replace Z := Z.trans y8
    replace E := E.snoc k8
    replace L := CP.Same.to y8 L
    repeat walk_at "w"
    refine r_err ?_
    repeat walk_at "w"
    refine ⟨by simp, fun e9 n9 => made_errS (f := "value") (fun _ _ z => z) n9 fun G9 y9 k9 => ?_⟩
    replace E := E.mono y9
    replace Z := Z.trans y9
    replace E := E.snoc k9
    replace L := CP.Same.to y9 L
    repeat walk_at "w"
    refine r_err ?_
    repeat walk_at "w"
    refine ⟨by simp, fun e10 n10 => made_errS (f := "value") (fun _ _ z => z) n10 fun G10 y10 k10 => ?_⟩
    replace E := E.mono y10
    replace Z := Z.trans y10
    replace E := E.snoc k10
    replace L := CP.Same.to y10 L
    repeat walk_at "w"
    refine r_err ?_
    repeat walk_at "w"
    refine ⟨by simp, fun e11 n11 => made_errS (f := "name") (fun _ _ z => z) n11 fun G11 y11 k11 => ?_⟩
    replace E := E.mono y11
    replace Z := Z.trans y11
    replace E := E.snoc k11
    replace L := CP.Same.to y11 L
    repeat walk_at "w"
    rename_i a1 A1 b1 c1 d1 p1 J1 m1 t1 h1
    replace E := E.mono c1
    replace Z := Z.trans c1
    have PN := Z.free m1
    replace E := E.mono t1
    replace Z := Z.trans t1
    clear L
    have L : J1 p1 = some (.lst [V.ref e0, V.ref e1, V.ref e2, V.ref e3, V.ref e4, V.ref e5, V.ref e6, V.ref e7, V.ref e8, V.ref e9, V.ref e10, V.ref e11]) := h1
    clear h1 d1
    refine ⟨.inl ⟨rfl, _, .of L⟩, ?_⟩
    repeat walk_at "w"
    refine r_err ?_
    repeat walk_at "w"
    refine ⟨by simp, fun e12 n12 => made_errS (f := "place") (fun _ _ z => z) n12 fun G12 y12 k12 => ?_⟩
    replace E := E.mono y12
    replace Z := Z.trans y12
    replace E := E.snoc k12
    replace L := CP.Same.to y12 L
    repeat walk_at "w"
    refine r_app L (by simp; omega) fun H9 b9 L9 => ?_
    have W := CP.Same.sb Z PN b9
    replace L9 : H9 p1 = some (.lst ([e0, e1, e2, e3, e4, e5, e6, e7, e8, e9, e10, e11, e12].map V.ref)) := L9
    replace E : Errs H9 (T.errs.take 13) (fldsK .non) [e0, e1, e2, e3, e4, e5, e6, e7, e8, e9, e10, e11, e12] := E.sb L b9
    generalize [e0, e1, e2, e3, e4, e5, e6, e7, e8, e9, e10, e11, e12] = eN at L9 E
    replace LA := CP.Same.to W LA
    replace EA := EA.mono W
    replace LB := CP.Same.to W LB
    replace EB := EB.mono W
    have s45 : Same H H5 := s4.trans s5
    have S9 : Same H H9 := ((((s4.trans s5).trans s6).trans s7).trans s8).trans W
    have tv9 := (s7.trans s8).trans W
    clear W L Z PN b9 k0 k1 k2 k3 k4 k5 k6 k7 k8 k9 k10 k11 k12 m1 s4 s5 s7 s8
    repeat walk_at "w"
    rename_i pt H10 nt s10 h10
    refine ⟨pt, rfl, ⟨_, .of h10⟩, for_tup (K := K) (a := pt) (xs := [.ref lA, .ref lB, .ref p1]) (fun _ σ H' => Same H10 H' ∧ ∃ y6 y7, σ = [some (.ref a), some (.int (0 + (i : Int))), some v, some (.ref lA), some (.ref lB), some (.ref p1), y6, y7]) ⟨Same.refl _, _, _, rfl⟩ (fun _ _ _ _ w => .of (CP.Same.to w.1 h10)) ?_ ?_⟩
    · rintro i2 x σ H11 hx ⟨s11, y6, y7, rfl⟩
      have hx' : Some13 T H9 x := by
        match i2, hx with
        | 0, hx => cases hx; exact ⟨lA, eA, _, rfl, LA, EA⟩
        | 1, hx => cases hx; exact ⟨lB, eB, _, rfl, LB, EB⟩
        | 2, hx => cases hx; exact ⟨p1, eN, _, rfl, L9, E⟩
      obtain ⟨l, es, fs, rfl, hl, he⟩ := hx'
      have s12 := s10.trans s11
      have ln : es.length = 13 := he.1
      replace hl := CP.Same.to s12 hl
      replace he := he.mono s12
      repeat walk_at "w"
      refine r_exc0E fun f1 G1 u1 v1 => ?_
      repeat walk_at "w"
      refine r_exc0E fun f2 G2 u2 v2 => ?_
      repeat walk_at "w"
      refine r_exc0E fun f3 G3 u3 v3 => ?_
      replace he := (((((he.mono u1).snoc v1).mono u2).snoc v2).mono u3).snoc v3
      repeat walk_at "w"
      rename_i g1 G4 n4 u4 h4 g2 G5 n5 u5 h5
      refine ⟨g2, es ++ [f1, f2, f3], fs ++ [[], [], []], rfl, ?_, ?_, fun G6 u6 => ?_⟩
      · rw [h5]; simp
      · have := (he.mono u4).mono u5
        simp only [List.append_assoc, List.cons_append, List.nil_append] at this
        exact this
      · repeat walk_at "w"
        exact ⟨s11.trans (((((u1.trans u2).trans u3).trans u4).trans u5).trans u6), _, _, rfl⟩
    · rintro σ H11 ⟨s11, y6, y7, rfl⟩
      have s12 := s10.trans s11
      replace LA := CP.Same.to s12 LA
      replace EA := EA.mono s12
      replace LB := CP.Same.to s12 LB
      replace EB := EB.mono s12
      replace L9 := CP.Same.to s12 L9
      replace E := E.mono s12
      have S12 := S9.trans s12
      have tv12 := tv9.trans s12
      clear s10 s11 s12 S9 tv9 h10
      have hv : ∃ d, Shw d ∧ ∀ H', Same H11 H' → ((Dp K H' v d ∧ d.hasDict = false) ∨ DpD H' v d) := by
        rcases tv with ⟨d, n, sd, _, z⟩ | ⟨a0, xs, ds, rfl, h0, _, sd, nd, z⟩
        · exact ⟨d, sd, fun H' s => (z H' (tv12.trans s)).2⟩
        · exact ⟨.list ds, sd, fun H' s => .inl ⟨.lst (.of (CP.Same.to (tv12.trans s) h0)) (z H' fun b o _ e => (tv12.trans s) _ _ e), by simp only [PyData.hasDict]; exact nd⟩⟩
      obtain ⟨d, sd, hd⟩ := hv
      repeat walk_at "w"
      refine ⟨lA, eA, v, rfl, LA, EA, fun f1 G1 u1 w1 => ?_⟩
      repeat walk_at "w"
      refine ⟨lB, eB, v, rfl, CP.Same.to u1 LB, EB.mono u1, fun f2 G2 u2 w2 => ?_⟩
      repeat walk_at "w"
      refine r_catX (CP.Same.to u2 w1) w2 (by simp; omega) fun g1 G3 ne3 u3 h3 => ?_
      have U3 := (u1.trans u2).trans u3
      replace h3 : G3 g1 = some (.lst (List.replicate 26 v)) := h3
      repeat walk_at "w"
      refine repr26 sd.w ne3 h3 (hd _ U3) ?_
      repeat walk_at "w"
      rename_i g2 G4 n4 u4 h4
      refine r_repX h4 (by decide) (by decide) (by simp; omega) fun g3 G5 ne5 u5 h5 => ?_
      have U5 := (U3.trans u4).trans u5
      replace h5 : G5 g3 = some (.lst (List.replicate 26 v)) := h5
      clear u1 u2 u3 u4 u5 U3 n4 h4 h3 w1 w2
      repeat walk_at "w"
      refine repr26 sd.w ne5 h5 (hd _ U5) ?_
      repeat walk_at "w"
      refine if_nd (fun z => absurd rfl z) fun _ => ?_
      repeat walk_at "w"
      refine ⟨p1, eN, .non, rfl, CP.Same.to U5 L9, E.mono U5, fun f3 G6 u6 w6 => ?_⟩
      repeat walk_at "w"
      refine ⟨f3, rfl, ⟨_, .of w6⟩, fun D hD => lc_noneL hD (.of w6) (by simp; omega) (fun i2 x G7 hx u7 => ?_) fun G7 u7 w7 => ?_⟩
      · have ex : x = .non := by
          have := List.mem_of_getElem? hx
          exact (List.mem_replicate.mp this).2
        subst ex
        intro N no yes
        repeat walk_at "w"
        refine ⟨rfl, ?_⟩
        repeat walk_at "w"
        exact no _ rfl (Same.refl _)
      · repeat walk_at "w"
        rename_i g4 G8 n8 u8 h8
        refine nil_neX0 (.of (CP.Same.to u8 w7)) (.of h8) ?_
        have U8 := ((U5.trans u6).trans u7).trans u8
        repeat walk_at "w"
        clear U5 u6 u7 u8 n8 w6 w7 h8 h5
        rcases tv with ⟨dd, n, _, hn, z⟩ | ⟨a0, xs, ds, rfl, h0, hx, sx, nd, z⟩
        · refine r_isi (n := n) (z _ (tv12.trans U8)).1 (by decide) ?_
          have nl : (n == "list" || (n == "bool" && "list" == "int")) = false := by
            simp only [List.mem_cons, List.not_mem_nil, or_false] at hn
            rcases hn with rfl | rfl | rfl | rfl | rfl | rfl <;> decide
          rw [nl]
          repeat walk_at "w"
          exact ⟨S12.trans U8, _, _, _, _, _, _, _, rfl⟩
        · have h1 := CP.Same.to (tv12.trans U8) h0
          refine r_isi (tk_lst h1) (by decide) ?_
          rw [show ("list" == "list" || ("list" == "bool" && "list" == "int")) = true by decide]
          repeat walk_at "w"
          refine ⟨.inl ⟨rfl, _, .of h1⟩, ?_⟩
          repeat walk_at "w"
          refine r_app h1 (by omega) fun G9 b9 h9 => ?_
          have neA : ∀ {c : Addr} {es : List Addr}, G8 c = some (.lst (es.map V.ref)) → es.length = 13 → c ≠ a0 := fun e1 e2 e3 => by
            rw [e3, h1] at e1
            have := congrArg List.length (HO.lst.inj (Option.some.inj e1))
            simp at this
            omega
          have LA9 := SB.to b9 (neA (CP.Same.to U8 LA) EA.1) (CP.Same.to U8 LA)
          have LB9 := SB.to b9 (neA (CP.Same.to U8 LB) EB.1) (CP.Same.to U8 LB)
          have EA9 := (EA.mono U8).sb h1 b9
          have EB9 := (EB.mono U8).sb h1 b9
          have lenA : eA.length = 13 := EA.1
          have lenB : eB.length = 13 := EB.1
          have hd : ∀ H', Same G9 H' → (Dp K H' (.ref a0) (.list (ds ++ [.str "later"])) ∧ (PyData.list (ds ++ [.str "later"])).hasDict = false) ∨ DpD H' (.ref a0) (.list (ds ++ [.str "later"])) := fun H' s => by
            refine .inl ⟨.lst (.of (CP.Same.to s h9)) (DpA_app (z H' fun b o nb e => s _ _ (b9 _ _ nb ((tv12.trans U8) _ _ e))) (.cons (.str _) .nil)), ?_⟩
            simp only [PyData.hasDict]
            rw [dictA_app, nd]
            rfl
          have sl := sx.later
          have B9 : Same H G9 := CP.Same.sb (S12.trans U8) (Same.free s45 (fv a0 rfl)) b9
          clear tv12
          repeat walk_at "w"
          refine ⟨lA, eA, .ref a0, rfl, LA9, EA9, fun f1 G1 u1 w1 => ?_⟩
          repeat walk_at "w"
          refine ⟨lB, eB, .ref a0, rfl, CP.Same.to u1 LB9, EB9.mono u1, fun f2 G2 u2 w2 => ?_⟩
          repeat walk_at "w"
          refine r_catX (CP.Same.to u2 w1) w2 (by simp; omega) fun g1 G3 ne3 u3 h3 => ?_
          have U3 := (u1.trans u2).trans u3
          replace h3 : G3 g1 = some (.lst (List.replicate 26 (.ref a0))) := h3
          repeat walk_at "w"
          refine repr26 sl ne3 h3 (hd _ U3) ?_
          repeat walk_at "w"
          rename_i g2 G4 n4 u4 h4
          refine r_repX h4 (by decide) (by decide) (by simp; omega) fun g3 G5 ne5 u5 h5 => ?_
          have U5 := (U3.trans u4).trans u5
          replace h5 : G5 g3 = some (.lst (List.replicate 26 (.ref a0))) := h5
          clear u1 u2 u3 u4 u5 U3 n4 h4 h3 w1 w2
          repeat walk_at "w"
          refine repr26 sl ne5 h5 (hd _ U5) ?_
          repeat walk_at "w"
          refine if_nd (fun z => absurd rfl z) fun _ => ?_
          repeat walk_at "w"
          exact ⟨B9.trans U5, _, _, _, _, _, _, _, rfl⟩
  · rintro σ H' ⟨s, x1, x2, x3, x4, x5, x6, x7, rfl⟩
    repeat walk_at "w"
    exact q _

theorem ok_law (T : Txt K mg) : FnG P w K mg base CX0 4 T.a_law T.fd_law ["_law_script"] (sp_law T) :=
  Fun.okG T.F_law sc_law (len_law T) fun cdv A outer s H vs Q E gd hr h => ⟨t_law w T, PSs.nox (pss_cons (ps_if (PW.pt (pw_or (pt_cmpR op_in_seq pe_bl (pe_call (ok_law_classes T) (hr.mono (by decide)) (by rfl) T.m__law_classes T.F_law_classes.kp (b_law_classes T) .nil pass0 (pa_cons (pe_exc0 PySem.F.excBase_ValueError T.x_CellError T.m_CellError T.kx_CellError (by rfl)) pa_nil)) (by rfl)) (pw_or1 (pt_not (pt_val (pe_callB call_isErr (by rfl) T.n_isinstance (by decide +kernel) (pa_cons (pe_exc0 PySem.F.excBase_ValueError T.x_CellError T.m_CellError T.kx_CellError (by rfl)) (pa_cons (pe_bltn (v := .ty "ValueError") (by rfl) T.n_ValueError (by decide +kernel) rfl) pa_nil)))))))) (pss_one (ps_ret pe_bl)) pss_nil)
      (pss_cons (ps_for PassesOwn.never rfl (pi_range1 (by rfl) T.n_range (pa_cons (pe_callB (call_maxA rfl) (by rfl) T.n_max (by decide +kernel) (pa_cons pe_int (pa_cons (pe_callB call_lenA (by rfl) T.n_len (by decide +kernel) (pa_cons (pe_slice sl_list (pv 0) po_none (po_some pe_int)) pa_nil)) pa_nil))) pa_nil)) (pg_name (i := 1) sc_law.nd rfl (Or.inl rfl)) (pss_cons (ps_set (i := 2) sc_law.nd rfl (Or.inl rfl) (pe_call (ok_law_thing T) (hr.mono (by decide)) (by rfl) T.m__law_thing T.F_law_thing.kp (b_law_thing T) .nil pass0 (pa_cons (pe_callB (cr_sum rfl) (by rfl) T.n_sum (by decide +kernel) (pa_cons (pe_slice sl_list (pv 0) (po_some (pv 1)) (po_some (pe_op op_add (pv 1) pe_int))) pa_nil)) (pa_cons (pv 1) pa_nil))))
      (pss_cons (ps_par (i := 3) (j := 4) rfl sc_law.nd rfl rfl (by decide) rfl rfl (pa_cons (pe_call (ok_law_made T) (hr.mono (by decide)) (by rfl) T.m__law_made T.F_law_made.kp (b_law_made T) .nil pass0 (pa_cons (pv 2) pa_nil)) (pa_cons (pe_call (ok_law_by_name T) (hr.mono (by decide)) (by rfl) T.m__law_by_name T.F_law_by_name.kp (b_law_by_name T) .nil pass0 (pa_cons (pv 2) pa_nil)) pa_nil)) (by rfl))
      (pss_cons (ps_set (i := 5) sc_law.nd rfl (Or.inl rfl) (pe_lst (pa_cons (pe_err0 T.e_InvalidText.ox T.e_InvalidText.ini T.e_InvalidText.fn (ok_InvalidText___init T) (hr.mono (by decide)) (bd_InvalidText___init_1 T).choose_spec.2 (bd_InvalidText___init_1 T).choose_spec.1 pass0 (by rfl) T.m_InvalidText) (pa_cons (pe_err0 T.e_InvalidForm.ox T.e_InvalidForm.ini T.e_InvalidForm.fn (ok_InvalidForm___init T) (hr.mono (by decide)) (bd_InvalidForm___init_1 T).choose_spec.2 (bd_InvalidForm___init_1 T).choose_spec.1 pass0 (by rfl) T.m_InvalidForm) (pa_cons (pe_err0 T.e_InvalidLetter.ox T.e_InvalidLetter.ini T.e_InvalidLetter.fn (ok_InvalidLetter___init T) (hr.mono (by decide)) (bd_InvalidLetter___init_1 T).choose_spec.2 (bd_InvalidLetter___init_1 T).choose_spec.1 pass0 (by rfl) T.m_InvalidLetter) (pa_cons (pe_err0 T.e_InvalidNumber.ox T.e_InvalidNumber.ini T.e_InvalidNumber.fn (ok_InvalidNumber___init T) (hr.mono (by decide)) (bd_InvalidNumber___init_1 T).choose_spec.2 (bd_InvalidNumber___init_1 T).choose_spec.1 pass0 (by rfl) T.m_InvalidNumber) (pa_cons (pe_err0 T.e_InvalidLoops.ox T.e_InvalidLoops.ini T.e_InvalidLoops.fn (ok_InvalidLoops___init T) (hr.mono (by decide)) (bd_InvalidLoops___init_1 T).choose_spec.2 (bd_InvalidLoops___init_1 T).choose_spec.1 pass0 (by rfl) T.m_InvalidLoops) (pa_cons (pe_err0 T.e_InvalidShape.ox T.e_InvalidShape.ini T.e_InvalidShape.fn (ok_InvalidShape___init T) (hr.mono (by decide)) (bd_InvalidShape___init_1 T).choose_spec.2 (bd_InvalidShape___init_1 T).choose_spec.1 pass0 (by rfl) T.m_InvalidShape) pa_nil))))))))
      (pss_cons (ps_set (i := 5) sc_law.nd rfl (Or.inl rfl) (pe_op op_cat (pv 5) (pe_lst (pa_cons (pe_err0 T.e_InvalidValues.ox T.e_InvalidValues.ini T.e_InvalidValues.fn (ok_InvalidValues___init T) (hr.mono (by decide)) (bd_InvalidValues___init_1 T).choose_spec.2 (bd_InvalidValues___init_1 T).choose_spec.1 pass0 (by rfl) T.m_InvalidValues) (pa_cons (pe_err0 T.e_InvalidCell.ox T.e_InvalidCell.ini T.e_InvalidCell.fn (ok_InvalidCell___init T) (hr.mono (by decide)) (bd_InvalidCell___init_1 T).choose_spec.2 (bd_InvalidCell___init_1 T).choose_spec.1 pass0 (by rfl) T.m_InvalidCell) (pa_cons (pe_err0 T.e_InvalidSides.ox T.e_InvalidSides.ini T.e_InvalidSides.fn (ok_InvalidSides___init T) (hr.mono (by decide)) (bd_InvalidSides___init_1 T).choose_spec.2 (bd_InvalidSides___init_1 T).choose_spec.1 pass0 (by rfl) T.m_InvalidSides) (pa_cons (pe_err0 T.e_InvalidTable.ox T.e_InvalidTable.ini T.e_InvalidTable.fn (ok_InvalidTable___init T) (hr.mono (by decide)) (bd_InvalidTable___init_1 T).choose_spec.2 (bd_InvalidTable___init_1 T).choose_spec.1 pass0 (by rfl) T.m_InvalidTable) (pa_cons (pe_err0 T.e_InvalidWalk.ox T.e_InvalidWalk.ini T.e_InvalidWalk.fn (ok_InvalidWalk___init T) (hr.mono (by decide)) (bd_InvalidWalk___init_1 T).choose_spec.2 (bd_InvalidWalk___init_1 T).choose_spec.1 pass0 (by rfl) T.m_InvalidWalk) (pa_cons (pe_err0 T.e_ShortLoop.ox T.e_ShortLoop.ini T.e_ShortLoop.fn (ok_ShortLoop___init T) (hr.mono (by decide)) (bd_ShortLoop___init_1 T).choose_spec.2 (bd_ShortLoop___init_1 T).choose_spec.1 pass0 (by rfl) T.m_ShortLoop) pa_nil)))))))))
      (pss_cons (ps_expr (pe_bm PySem.F.plainAttrs_list PySem.F.slot_list_append PySem.F.type_list_append mt_append (pv 5) (pa_cons (pe_err0 T.e_NoRoom.ox T.e_NoRoom.ini T.e_NoRoom.fn (ok_NoRoom___init T) (hr.mono (by decide)) (bd_NoRoom___init_1 T).choose_spec.2 (bd_NoRoom___init_1 T).choose_spec.1 pass0 (by rfl) T.m_NoRoom) pa_nil)))
      (pss_cons (ps_for PassesOwn.never rfl (pi_tup (pe_tup (pa_cons (pv 3) (pa_cons (pv 4) (pa_cons (pv 5) pa_nil))))) (pg_name (i := 6) sc_law.nd rfl (Or.inl rfl)) (pss_one (ps_if (pt_not (pt_val (pe_call (ok_law_placed T) (hr.mono (by decide)) (by rfl) T.m__law_placed T.F_law_placed.kp (b_law_placed T) .nil pass0 (pa_cons (pe_op op_cat (pv 6) (pe_lst (pa_cons (pe_exc0 PySem.F.excBase_ValueError T.x_MismatchedShapes T.m_MismatchedShapes T.kx_MismatchedShapes (by rfl)) (pa_cons (pe_exc0 PySem.F.excBase_ValueError T.x_SharedPlaces T.m_SharedPlaces T.kx_SharedPlaces (by rfl)) (pa_cons (pe_exc0 PySem.F.excBase_ValueError T.x_NothingToUndo T.m_NothingToUndo T.kx_NothingToUndo (by rfl)) pa_nil))))) pa_nil)))) (pss_one (ps_ret pe_bl)) pss_nil)))
      (pss_cons (ps_if (pt_cmpR (op_neX hr.units) (pe_callB (call_reprDD gd hr.units) (by rfl) T.n_repr (by decide +kernel) (pa_cons (pe_op op_catX (pe_call (ok_law_fields T) (hr.mono (by decide)) (by rfl) T.m__law_fields T.F_law_fields.kp (b_law_fields T) .nil pass0 (pa_cons (pv 3) pa_nil)) (pe_call (ok_law_fields T) (hr.mono (by decide)) (by rfl) T.m__law_fields T.F_law_fields.kp (b_law_fields T) .nil pass0 (pa_cons (pv 4) pa_nil))) pa_nil)) (pe_callB (call_reprDD gd hr.units) (by rfl) T.n_repr (by decide +kernel) (pa_cons (pe_op op_repX (pe_lst (pa_cons (pv 2) pa_nil)) pe_int) pa_nil)) (nomark _)) (pss_one (ps_ret pe_bl)) pss_nil)
      (pss_cons (ps_if (pt_cmpR (op_neX hr.units) (pe_lc (own := [("_law_field", 7)]) (g := (gName 7)) (tt := tTest (tOp rNotN (tVar 7) (tC .non))) (te := tVar 7) rfl sc_law.nd (pi_list (pe_call (ok_law_fields T) (hr.mono (by decide)) (by rfl) T.m__law_fields T.F_law_fields.kp (b_law_fields T) .nil pass0 (pa_cons (pv 5) pa_nil))) (blkOk_by (own := [("_law_field", 7)]) (N := ["_law_script", "_law_at", "_law_thing_here", "_law_errors", "_law_by_name_here", "_law_bare", "_law_some", "_law_field"]) (sc := defScope s_law) (by decide +kernel)) (fun _ _ _ _ _ => (pg_name (i := 7) sc_law.nd rfl (Or.inl rfl))) (fun _ _ _ _ _ => (pts_one (pt_cmpR op_notN1 (pv 7) pe_non (nomark _)))) (fun _ _ _ _ _ => (pv 7))) (pe_lst pa_nil) (nomark _)) (pss_one (ps_ret pe_bl)) pss_nil)
      (pss_one (ps_if (pt_val (pe_callB call_isi (by rfl) T.n_isinstance (by decide +kernel) (pa_cons (pv 2) (pa_cons (pe_bltn (v := .ty "list") (by rfl) T.n_list (by decide +kernel) rfl) pa_nil)))) (pss_cons (ps_expr (pe_bm PySem.F.plainAttrs_list PySem.F.slot_list_append PySem.F.type_list_append mt_append (pv 2) (pa_cons pe_str pa_nil)))
      (pss_one (ps_if (pt_cmpR (op_neX hr.units) (pe_callB (call_reprDD gd hr.units) (by rfl) T.n_repr (by decide +kernel) (pa_cons (pe_op op_catX (pe_call (ok_law_fields T) (hr.mono (by decide)) (by rfl) T.m__law_fields T.F_law_fields.kp (b_law_fields T) .nil pass0 (pa_cons (pv 3) pa_nil)) (pe_call (ok_law_fields T) (hr.mono (by decide)) (by rfl) T.m__law_fields T.F_law_fields.kp (b_law_fields T) .nil pass0 (pa_cons (pv 4) pa_nil))) pa_nil)) (pe_callB (call_reprDD gd hr.units) (by rfl) T.n_repr (by decide +kernel) (pa_cons (pe_op op_repX (pe_lst (pa_cons (pv 2) pa_nil)) pe_int) pa_nil)) (nomark _)) (pss_one (ps_ret pe_bl)) pss_nil))) pss_nil)))))))))))
      (pss_one (ps_ret pe_bl)))), rd_law T vs H Q E h⟩
end
end CP

namespace CP
open PySem L2
theorem dfl1 {K : PySem.W.Frag} {T : Addr} {oc : Value} {od : Option Addr} {its : Array Value} {n : Nat} {sl : Array (Option Value)} {dvs : List V} (hd : dvs ≠ []) (hl : K.lookup T = some ⟨oc, od, .seq its n, sl⟩) (hr : _root_.He.relAll dvs its.toList = true) : DflV K (.ref T) dvs := .inr ⟨hd, T, _, its.toList, n, rfl, hl, by simp, _root_.He.relAll_ok hr⟩
theorem all_mk {w : World} {l : PySem.W.OpenLaw} {K : PySem.W.Frag} {h : Heap} {mg : Str → Option Value} {fa : Addr} (X : K.In h) (G : h.Ns mainGlobals mg) (hfa : mg "law" = some (.ref fa))
    {fInvalidText___init : Addr} {odInvalidText___init anInvalidText___init : Option Addr} {slInvalidText___init : Array (Option Value)} {ocInvalidText___init kVInvalidText___init dcInvalidText___init pmInvalidText___init cdInvalidText___init ctInvalidText___init : Value} {dVInvalidText___init : Value}
    {fInvalidForm___init : Addr} {odInvalidForm___init anInvalidForm___init : Option Addr} {slInvalidForm___init : Array (Option Value)} {ocInvalidForm___init kVInvalidForm___init dcInvalidForm___init pmInvalidForm___init cdInvalidForm___init ctInvalidForm___init : Value} {dVInvalidForm___init : Value}
    {fInvalidLetter___init : Addr} {odInvalidLetter___init anInvalidLetter___init : Option Addr} {slInvalidLetter___init : Array (Option Value)} {ocInvalidLetter___init kVInvalidLetter___init dcInvalidLetter___init pmInvalidLetter___init cdInvalidLetter___init ctInvalidLetter___init : Value} {dVInvalidLetter___init : Value}
    {fInvalidNumber___init : Addr} {odInvalidNumber___init anInvalidNumber___init : Option Addr} {slInvalidNumber___init : Array (Option Value)} {ocInvalidNumber___init kVInvalidNumber___init dcInvalidNumber___init pmInvalidNumber___init cdInvalidNumber___init ctInvalidNumber___init : Value} {dVInvalidNumber___init : Value}
    {fInvalidLoops___init : Addr} {odInvalidLoops___init anInvalidLoops___init : Option Addr} {slInvalidLoops___init : Array (Option Value)} {ocInvalidLoops___init kVInvalidLoops___init dcInvalidLoops___init pmInvalidLoops___init cdInvalidLoops___init ctInvalidLoops___init : Value} {dVInvalidLoops___init : Value}
    {fShortLoop___init : Addr} {odShortLoop___init anShortLoop___init : Option Addr} {slShortLoop___init : Array (Option Value)} {ocShortLoop___init kVShortLoop___init dcShortLoop___init pmShortLoop___init cdShortLoop___init ctShortLoop___init : Value} {dVShortLoop___init : Value}
    {fInvalidShape___init : Addr} {odInvalidShape___init anInvalidShape___init : Option Addr} {slInvalidShape___init : Array (Option Value)} {ocInvalidShape___init kVInvalidShape___init dcInvalidShape___init pmInvalidShape___init cdInvalidShape___init ctInvalidShape___init : Value} {dVInvalidShape___init : Value}
    {fInvalidValues___init : Addr} {odInvalidValues___init anInvalidValues___init : Option Addr} {slInvalidValues___init : Array (Option Value)} {ocInvalidValues___init kVInvalidValues___init dcInvalidValues___init pmInvalidValues___init cdInvalidValues___init ctInvalidValues___init : Value} {dVInvalidValues___init : Value}
    {fInvalidCell___init : Addr} {odInvalidCell___init anInvalidCell___init : Option Addr} {slInvalidCell___init : Array (Option Value)} {ocInvalidCell___init kVInvalidCell___init dcInvalidCell___init pmInvalidCell___init cdInvalidCell___init ctInvalidCell___init : Value} {dVInvalidCell___init : Value}
    {fInvalidSides___init : Addr} {odInvalidSides___init anInvalidSides___init : Option Addr} {slInvalidSides___init : Array (Option Value)} {ocInvalidSides___init kVInvalidSides___init dcInvalidSides___init pmInvalidSides___init cdInvalidSides___init ctInvalidSides___init : Value} {dVInvalidSides___init : Value}
    {fInvalidTable___init : Addr} {odInvalidTable___init anInvalidTable___init : Option Addr} {slInvalidTable___init : Array (Option Value)} {ocInvalidTable___init kVInvalidTable___init dcInvalidTable___init pmInvalidTable___init cdInvalidTable___init ctInvalidTable___init : Value} {dVInvalidTable___init : Value}
    {fInvalidWalk___init : Addr} {odInvalidWalk___init anInvalidWalk___init : Option Addr} {slInvalidWalk___init : Array (Option Value)} {ocInvalidWalk___init kVInvalidWalk___init dcInvalidWalk___init pmInvalidWalk___init cdInvalidWalk___init ctInvalidWalk___init : Value} {dVInvalidWalk___init : Value}
    {fNoRoom___init : Addr} {odNoRoom___init anNoRoom___init : Option Addr} {slNoRoom___init : Array (Option Value)} {ocNoRoom___init kVNoRoom___init dcNoRoom___init pmNoRoom___init cdNoRoom___init ctNoRoom___init : Value} {dVNoRoom___init : Value}
    {flaw_classes : Addr} {odlaw_classes anlaw_classes : Option Addr} {sllaw_classes : Array (Option Value)} {oclaw_classes kVlaw_classes dclaw_classes pmlaw_classes cdlaw_classes ctlaw_classes : Value}
    {flaw_fields : Addr} {odlaw_fields anlaw_fields : Option Addr} {sllaw_fields : Array (Option Value)} {oclaw_fields kVlaw_fields dclaw_fields pmlaw_fields cdlaw_fields ctlaw_fields : Value}
    {flaw_placed : Addr} {odlaw_placed anlaw_placed : Option Addr} {sllaw_placed : Array (Option Value)} {oclaw_placed kVlaw_placed dclaw_placed pmlaw_placed cdlaw_placed ctlaw_placed : Value}
    {flaw_thing : Addr} {odlaw_thing anlaw_thing : Option Addr} {sllaw_thing : Array (Option Value)} {oclaw_thing kVlaw_thing dclaw_thing pmlaw_thing cdlaw_thing ctlaw_thing : Value}
    {flaw_made : Addr} {odlaw_made anlaw_made : Option Addr} {sllaw_made : Array (Option Value)} {oclaw_made kVlaw_made dclaw_made pmlaw_made cdlaw_made ctlaw_made : Value}
    {flaw_by_name : Addr} {odlaw_by_name anlaw_by_name : Option Addr} {sllaw_by_name : Array (Option Value)} {oclaw_by_name kVlaw_by_name dclaw_by_name pmlaw_by_name cdlaw_by_name ctlaw_by_name : Value}
    {flaw : Addr} {odlaw anlaw : Option Addr} {sllaw : Array (Option Value)} {oclaw kVlaw dclaw pmlaw cdlaw ctlaw : Value}
    {CCellError : Addr}
    {CInvalidCell : Addr}
    {CInvalidForm : Addr}
    {CInvalidLetter : Addr}
    {CInvalidLoops : Addr}
    {CInvalidNumber : Addr}
    {CInvalidShape : Addr}
    {CInvalidSides : Addr}
    {CInvalidTable : Addr}
    {CInvalidText : Addr}
    {CInvalidValues : Addr}
    {CInvalidWalk : Addr}
    {CMismatchedShapes : Addr}
    {CNoRoom : Addr}
    {CNothingToUndo : Addr}
    {CSharedPlaces : Addr}
    {CShortLoop : Addr}
    {q1InvalidCell q2InvalidCell : Str} {q3InvalidCell : Addr} {q4InvalidCell q5InvalidCell : List Value} {q6InvalidCell : List Str} {q7InvalidCell : List Value} {q8InvalidCell : Bool} {q9InvalidCell : Option Bool} {qaInvalidCell : Option Addr} {qbInvalidCell qcInvalidCell qdInvalidCell qeInvalidCell qfInvalidCell : Option Value}
    {q1InvalidForm q2InvalidForm : Str} {q3InvalidForm : Addr} {q4InvalidForm q5InvalidForm : List Value} {q6InvalidForm : List Str} {q7InvalidForm : List Value} {q8InvalidForm : Bool} {q9InvalidForm : Option Bool} {qaInvalidForm : Option Addr} {qbInvalidForm qcInvalidForm qdInvalidForm qeInvalidForm qfInvalidForm : Option Value}
    {q1InvalidLetter q2InvalidLetter : Str} {q3InvalidLetter : Addr} {q4InvalidLetter q5InvalidLetter : List Value} {q6InvalidLetter : List Str} {q7InvalidLetter : List Value} {q8InvalidLetter : Bool} {q9InvalidLetter : Option Bool} {qaInvalidLetter : Option Addr} {qbInvalidLetter qcInvalidLetter qdInvalidLetter qeInvalidLetter qfInvalidLetter : Option Value}
    {q1InvalidLoops q2InvalidLoops : Str} {q3InvalidLoops : Addr} {q4InvalidLoops q5InvalidLoops : List Value} {q6InvalidLoops : List Str} {q7InvalidLoops : List Value} {q8InvalidLoops : Bool} {q9InvalidLoops : Option Bool} {qaInvalidLoops : Option Addr} {qbInvalidLoops qcInvalidLoops qdInvalidLoops qeInvalidLoops qfInvalidLoops : Option Value}
    {q1InvalidNumber q2InvalidNumber : Str} {q3InvalidNumber : Addr} {q4InvalidNumber q5InvalidNumber : List Value} {q6InvalidNumber : List Str} {q7InvalidNumber : List Value} {q8InvalidNumber : Bool} {q9InvalidNumber : Option Bool} {qaInvalidNumber : Option Addr} {qbInvalidNumber qcInvalidNumber qdInvalidNumber qeInvalidNumber qfInvalidNumber : Option Value}
    {q1InvalidShape q2InvalidShape : Str} {q3InvalidShape : Addr} {q4InvalidShape q5InvalidShape : List Value} {q6InvalidShape : List Str} {q7InvalidShape : List Value} {q8InvalidShape : Bool} {q9InvalidShape : Option Bool} {qaInvalidShape : Option Addr} {qbInvalidShape qcInvalidShape qdInvalidShape qeInvalidShape qfInvalidShape : Option Value}
    {q1InvalidSides q2InvalidSides : Str} {q3InvalidSides : Addr} {q4InvalidSides q5InvalidSides : List Value} {q6InvalidSides : List Str} {q7InvalidSides : List Value} {q8InvalidSides : Bool} {q9InvalidSides : Option Bool} {qaInvalidSides : Option Addr} {qbInvalidSides qcInvalidSides qdInvalidSides qeInvalidSides qfInvalidSides : Option Value}
    {q1InvalidTable q2InvalidTable : Str} {q3InvalidTable : Addr} {q4InvalidTable q5InvalidTable : List Value} {q6InvalidTable : List Str} {q7InvalidTable : List Value} {q8InvalidTable : Bool} {q9InvalidTable : Option Bool} {qaInvalidTable : Option Addr} {qbInvalidTable qcInvalidTable qdInvalidTable qeInvalidTable qfInvalidTable : Option Value}
    {q1InvalidText q2InvalidText : Str} {q3InvalidText : Addr} {q4InvalidText q5InvalidText : List Value} {q6InvalidText : List Str} {q7InvalidText : List Value} {q8InvalidText : Bool} {q9InvalidText : Option Bool} {qaInvalidText : Option Addr} {qbInvalidText qcInvalidText qdInvalidText qeInvalidText qfInvalidText : Option Value}
    {q1InvalidValues q2InvalidValues : Str} {q3InvalidValues : Addr} {q4InvalidValues q5InvalidValues : List Value} {q6InvalidValues : List Str} {q7InvalidValues : List Value} {q8InvalidValues : Bool} {q9InvalidValues : Option Bool} {qaInvalidValues : Option Addr} {qbInvalidValues qcInvalidValues qdInvalidValues qeInvalidValues qfInvalidValues : Option Value}
    {q1InvalidWalk q2InvalidWalk : Str} {q3InvalidWalk : Addr} {q4InvalidWalk q5InvalidWalk : List Value} {q6InvalidWalk : List Str} {q7InvalidWalk : List Value} {q8InvalidWalk : Bool} {q9InvalidWalk : Option Bool} {qaInvalidWalk : Option Addr} {qbInvalidWalk qcInvalidWalk qdInvalidWalk qeInvalidWalk qfInvalidWalk : Option Value}
    {q1NoRoom q2NoRoom : Str} {q3NoRoom : Addr} {q4NoRoom q5NoRoom : List Value} {q6NoRoom : List Str} {q7NoRoom : List Value} {q8NoRoom : Bool} {q9NoRoom : Option Bool} {qaNoRoom : Option Addr} {qbNoRoom qcNoRoom qdNoRoom qeNoRoom qfNoRoom : Option Value}
    {q1ShortLoop q2ShortLoop : Str} {q3ShortLoop : Addr} {q4ShortLoop q5ShortLoop : List Value} {q6ShortLoop : List Str} {q7ShortLoop : List Value} {q8ShortLoop : Bool} {q9ShortLoop : Option Bool} {qaShortLoop : Option Addr} {qbShortLoop qcShortLoop qdShortLoop qeShortLoop qfShortLoop : Option Value}
    (aInvalidText___init : PySem.W.findIn K (.ref CInvalidText) "__init__" = some (some (.ref fInvalidText___init)))
    (lInvalidText___init : K.lookup fInvalidText___init = some ⟨ocInvalidText___init, odInvalidText___init, .func (PySem.W.fnOf "__init__" "InvalidText.__init__" (defArgs s_InvalidText___init) (defBody s_InvalidText___init) (defScope s_InvalidText___init) dVInvalidText___init kVInvalidText___init dcInvalidText___init pmInvalidText___init anInvalidText___init cdInvalidText___init ctInvalidText___init), slInvalidText___init⟩) (dInvalidText___init : DflV K dVInvalidText___init [.non])
    (cInvalidText___init : PySem.W.codeIn K cdInvalidText___init "InvalidText.__init__" = true) (kInvalidText___init : PySem.W.keepIn K (.ref fInvalidText___init) = true)
    (aInvalidForm___init : PySem.W.findIn K (.ref CInvalidForm) "__init__" = some (some (.ref fInvalidForm___init)))
    (lInvalidForm___init : K.lookup fInvalidForm___init = some ⟨ocInvalidForm___init, odInvalidForm___init, .func (PySem.W.fnOf "__init__" "InvalidForm.__init__" (defArgs s_InvalidForm___init) (defBody s_InvalidForm___init) (defScope s_InvalidForm___init) dVInvalidForm___init kVInvalidForm___init dcInvalidForm___init pmInvalidForm___init anInvalidForm___init cdInvalidForm___init ctInvalidForm___init), slInvalidForm___init⟩) (dInvalidForm___init : DflV K dVInvalidForm___init [.non])
    (cInvalidForm___init : PySem.W.codeIn K cdInvalidForm___init "InvalidForm.__init__" = true) (kInvalidForm___init : PySem.W.keepIn K (.ref fInvalidForm___init) = true)
    (aInvalidLetter___init : PySem.W.findIn K (.ref CInvalidLetter) "__init__" = some (some (.ref fInvalidLetter___init)))
    (lInvalidLetter___init : K.lookup fInvalidLetter___init = some ⟨ocInvalidLetter___init, odInvalidLetter___init, .func (PySem.W.fnOf "__init__" "InvalidLetter.__init__" (defArgs s_InvalidLetter___init) (defBody s_InvalidLetter___init) (defScope s_InvalidLetter___init) dVInvalidLetter___init kVInvalidLetter___init dcInvalidLetter___init pmInvalidLetter___init anInvalidLetter___init cdInvalidLetter___init ctInvalidLetter___init), slInvalidLetter___init⟩) (dInvalidLetter___init : DflV K dVInvalidLetter___init [.non])
    (cInvalidLetter___init : PySem.W.codeIn K cdInvalidLetter___init "InvalidLetter.__init__" = true) (kInvalidLetter___init : PySem.W.keepIn K (.ref fInvalidLetter___init) = true)
    (aInvalidNumber___init : PySem.W.findIn K (.ref CInvalidNumber) "__init__" = some (some (.ref fInvalidNumber___init)))
    (lInvalidNumber___init : K.lookup fInvalidNumber___init = some ⟨ocInvalidNumber___init, odInvalidNumber___init, .func (PySem.W.fnOf "__init__" "InvalidNumber.__init__" (defArgs s_InvalidNumber___init) (defBody s_InvalidNumber___init) (defScope s_InvalidNumber___init) dVInvalidNumber___init kVInvalidNumber___init dcInvalidNumber___init pmInvalidNumber___init anInvalidNumber___init cdInvalidNumber___init ctInvalidNumber___init), slInvalidNumber___init⟩) (dInvalidNumber___init : DflV K dVInvalidNumber___init [.non])
    (cInvalidNumber___init : PySem.W.codeIn K cdInvalidNumber___init "InvalidNumber.__init__" = true) (kInvalidNumber___init : PySem.W.keepIn K (.ref fInvalidNumber___init) = true)
    (aInvalidLoops___init : PySem.W.findIn K (.ref CInvalidLoops) "__init__" = some (some (.ref fInvalidLoops___init)))
    (lInvalidLoops___init : K.lookup fInvalidLoops___init = some ⟨ocInvalidLoops___init, odInvalidLoops___init, .func (PySem.W.fnOf "__init__" "InvalidLoops.__init__" (defArgs s_InvalidLoops___init) (defBody s_InvalidLoops___init) (defScope s_InvalidLoops___init) dVInvalidLoops___init kVInvalidLoops___init dcInvalidLoops___init pmInvalidLoops___init anInvalidLoops___init cdInvalidLoops___init ctInvalidLoops___init), slInvalidLoops___init⟩) (dInvalidLoops___init : DflV K dVInvalidLoops___init [.non])
    (cInvalidLoops___init : PySem.W.codeIn K cdInvalidLoops___init "InvalidLoops.__init__" = true) (kInvalidLoops___init : PySem.W.keepIn K (.ref fInvalidLoops___init) = true)
    (aShortLoop___init : PySem.W.findIn K (.ref CShortLoop) "__init__" = some (some (.ref fShortLoop___init)))
    (lShortLoop___init : K.lookup fShortLoop___init = some ⟨ocShortLoop___init, odShortLoop___init, .func (PySem.W.fnOf "__init__" "ShortLoop.__init__" (defArgs s_ShortLoop___init) (defBody s_ShortLoop___init) (defScope s_ShortLoop___init) dVShortLoop___init kVShortLoop___init dcShortLoop___init pmShortLoop___init anShortLoop___init cdShortLoop___init ctShortLoop___init), slShortLoop___init⟩) (dShortLoop___init : DflV K dVShortLoop___init [.non])
    (cShortLoop___init : PySem.W.codeIn K cdShortLoop___init "ShortLoop.__init__" = true) (kShortLoop___init : PySem.W.keepIn K (.ref fShortLoop___init) = true)
    (aInvalidShape___init : PySem.W.findIn K (.ref CInvalidShape) "__init__" = some (some (.ref fInvalidShape___init)))
    (lInvalidShape___init : K.lookup fInvalidShape___init = some ⟨ocInvalidShape___init, odInvalidShape___init, .func (PySem.W.fnOf "__init__" "InvalidShape.__init__" (defArgs s_InvalidShape___init) (defBody s_InvalidShape___init) (defScope s_InvalidShape___init) dVInvalidShape___init kVInvalidShape___init dcInvalidShape___init pmInvalidShape___init anInvalidShape___init cdInvalidShape___init ctInvalidShape___init), slInvalidShape___init⟩) (dInvalidShape___init : DflV K dVInvalidShape___init [.non])
    (cInvalidShape___init : PySem.W.codeIn K cdInvalidShape___init "InvalidShape.__init__" = true) (kInvalidShape___init : PySem.W.keepIn K (.ref fInvalidShape___init) = true)
    (aInvalidValues___init : PySem.W.findIn K (.ref CInvalidValues) "__init__" = some (some (.ref fInvalidValues___init)))
    (lInvalidValues___init : K.lookup fInvalidValues___init = some ⟨ocInvalidValues___init, odInvalidValues___init, .func (PySem.W.fnOf "__init__" "InvalidValues.__init__" (defArgs s_InvalidValues___init) (defBody s_InvalidValues___init) (defScope s_InvalidValues___init) dVInvalidValues___init kVInvalidValues___init dcInvalidValues___init pmInvalidValues___init anInvalidValues___init cdInvalidValues___init ctInvalidValues___init), slInvalidValues___init⟩) (dInvalidValues___init : DflV K dVInvalidValues___init [.non])
    (cInvalidValues___init : PySem.W.codeIn K cdInvalidValues___init "InvalidValues.__init__" = true) (kInvalidValues___init : PySem.W.keepIn K (.ref fInvalidValues___init) = true)
    (aInvalidCell___init : PySem.W.findIn K (.ref CInvalidCell) "__init__" = some (some (.ref fInvalidCell___init)))
    (lInvalidCell___init : K.lookup fInvalidCell___init = some ⟨ocInvalidCell___init, odInvalidCell___init, .func (PySem.W.fnOf "__init__" "InvalidCell.__init__" (defArgs s_InvalidCell___init) (defBody s_InvalidCell___init) (defScope s_InvalidCell___init) dVInvalidCell___init kVInvalidCell___init dcInvalidCell___init pmInvalidCell___init anInvalidCell___init cdInvalidCell___init ctInvalidCell___init), slInvalidCell___init⟩) (dInvalidCell___init : DflV K dVInvalidCell___init [.non])
    (cInvalidCell___init : PySem.W.codeIn K cdInvalidCell___init "InvalidCell.__init__" = true) (kInvalidCell___init : PySem.W.keepIn K (.ref fInvalidCell___init) = true)
    (aInvalidSides___init : PySem.W.findIn K (.ref CInvalidSides) "__init__" = some (some (.ref fInvalidSides___init)))
    (lInvalidSides___init : K.lookup fInvalidSides___init = some ⟨ocInvalidSides___init, odInvalidSides___init, .func (PySem.W.fnOf "__init__" "InvalidSides.__init__" (defArgs s_InvalidSides___init) (defBody s_InvalidSides___init) (defScope s_InvalidSides___init) dVInvalidSides___init kVInvalidSides___init dcInvalidSides___init pmInvalidSides___init anInvalidSides___init cdInvalidSides___init ctInvalidSides___init), slInvalidSides___init⟩) (dInvalidSides___init : DflV K dVInvalidSides___init [.non])
    (cInvalidSides___init : PySem.W.codeIn K cdInvalidSides___init "InvalidSides.__init__" = true) (kInvalidSides___init : PySem.W.keepIn K (.ref fInvalidSides___init) = true)
    (aInvalidTable___init : PySem.W.findIn K (.ref CInvalidTable) "__init__" = some (some (.ref fInvalidTable___init)))
    (lInvalidTable___init : K.lookup fInvalidTable___init = some ⟨ocInvalidTable___init, odInvalidTable___init, .func (PySem.W.fnOf "__init__" "InvalidTable.__init__" (defArgs s_InvalidTable___init) (defBody s_InvalidTable___init) (defScope s_InvalidTable___init) dVInvalidTable___init kVInvalidTable___init dcInvalidTable___init pmInvalidTable___init anInvalidTable___init cdInvalidTable___init ctInvalidTable___init), slInvalidTable___init⟩) (dInvalidTable___init : DflV K dVInvalidTable___init [.non])
    (cInvalidTable___init : PySem.W.codeIn K cdInvalidTable___init "InvalidTable.__init__" = true) (kInvalidTable___init : PySem.W.keepIn K (.ref fInvalidTable___init) = true)
    (aInvalidWalk___init : PySem.W.findIn K (.ref CInvalidWalk) "__init__" = some (some (.ref fInvalidWalk___init)))
    (lInvalidWalk___init : K.lookup fInvalidWalk___init = some ⟨ocInvalidWalk___init, odInvalidWalk___init, .func (PySem.W.fnOf "__init__" "InvalidWalk.__init__" (defArgs s_InvalidWalk___init) (defBody s_InvalidWalk___init) (defScope s_InvalidWalk___init) dVInvalidWalk___init kVInvalidWalk___init dcInvalidWalk___init pmInvalidWalk___init anInvalidWalk___init cdInvalidWalk___init ctInvalidWalk___init), slInvalidWalk___init⟩) (dInvalidWalk___init : DflV K dVInvalidWalk___init [.non])
    (cInvalidWalk___init : PySem.W.codeIn K cdInvalidWalk___init "InvalidWalk.__init__" = true) (kInvalidWalk___init : PySem.W.keepIn K (.ref fInvalidWalk___init) = true)
    (aNoRoom___init : PySem.W.findIn K (.ref CNoRoom) "__init__" = some (some (.ref fNoRoom___init)))
    (lNoRoom___init : K.lookup fNoRoom___init = some ⟨ocNoRoom___init, odNoRoom___init, .func (PySem.W.fnOf "__init__" "NoRoom.__init__" (defArgs s_NoRoom___init) (defBody s_NoRoom___init) (defScope s_NoRoom___init) dVNoRoom___init kVNoRoom___init dcNoRoom___init pmNoRoom___init anNoRoom___init cdNoRoom___init ctNoRoom___init), slNoRoom___init⟩) (dNoRoom___init : DflV K dVNoRoom___init [.non])
    (cNoRoom___init : PySem.W.codeIn K cdNoRoom___init "NoRoom.__init__" = true) (kNoRoom___init : PySem.W.keepIn K (.ref fNoRoom___init) = true)
    (alaw_classes : PySem.W.nsIn K mainGlobals "_law_classes" = some (some (.ref flaw_classes)))
    (llaw_classes : K.lookup flaw_classes = some ⟨oclaw_classes, odlaw_classes, .func (PySem.W.fnOf "_law_classes" "_law_classes" (defArgs s_law_classes) (defBody s_law_classes) (defScope s_law_classes) .none kVlaw_classes dclaw_classes pmlaw_classes anlaw_classes cdlaw_classes ctlaw_classes), sllaw_classes⟩)
    (claw_classes : PySem.W.codeIn K cdlaw_classes "_law_classes" = true) (klaw_classes : PySem.W.keepIn K (.ref flaw_classes) = true)
    (alaw_fields : PySem.W.nsIn K mainGlobals "_law_fields" = some (some (.ref flaw_fields)))
    (llaw_fields : K.lookup flaw_fields = some ⟨oclaw_fields, odlaw_fields, .func (PySem.W.fnOf "_law_fields" "_law_fields" (defArgs s_law_fields) (defBody s_law_fields) (defScope s_law_fields) .none kVlaw_fields dclaw_fields pmlaw_fields anlaw_fields cdlaw_fields ctlaw_fields), sllaw_fields⟩)
    (claw_fields : PySem.W.codeIn K cdlaw_fields "_law_fields" = true) (klaw_fields : PySem.W.keepIn K (.ref flaw_fields) = true)
    (alaw_placed : PySem.W.nsIn K mainGlobals "_law_placed" = some (some (.ref flaw_placed)))
    (llaw_placed : K.lookup flaw_placed = some ⟨oclaw_placed, odlaw_placed, .func (PySem.W.fnOf "_law_placed" "_law_placed" (defArgs s_law_placed) (defBody s_law_placed) (defScope s_law_placed) .none kVlaw_placed dclaw_placed pmlaw_placed anlaw_placed cdlaw_placed ctlaw_placed), sllaw_placed⟩)
    (claw_placed : PySem.W.codeIn K cdlaw_placed "_law_placed" = true) (klaw_placed : PySem.W.keepIn K (.ref flaw_placed) = true)
    (alaw_thing : PySem.W.nsIn K mainGlobals "_law_thing" = some (some (.ref flaw_thing)))
    (llaw_thing : K.lookup flaw_thing = some ⟨oclaw_thing, odlaw_thing, .func (PySem.W.fnOf "_law_thing" "_law_thing" (defArgs s_law_thing) (defBody s_law_thing) (defScope s_law_thing) .none kVlaw_thing dclaw_thing pmlaw_thing anlaw_thing cdlaw_thing ctlaw_thing), sllaw_thing⟩)
    (claw_thing : PySem.W.codeIn K cdlaw_thing "_law_thing" = true) (klaw_thing : PySem.W.keepIn K (.ref flaw_thing) = true)
    (alaw_made : PySem.W.nsIn K mainGlobals "_law_made" = some (some (.ref flaw_made)))
    (llaw_made : K.lookup flaw_made = some ⟨oclaw_made, odlaw_made, .func (PySem.W.fnOf "_law_made" "_law_made" (defArgs s_law_made) (defBody s_law_made) (defScope s_law_made) .none kVlaw_made dclaw_made pmlaw_made anlaw_made cdlaw_made ctlaw_made), sllaw_made⟩)
    (claw_made : PySem.W.codeIn K cdlaw_made "_law_made" = true) (klaw_made : PySem.W.keepIn K (.ref flaw_made) = true)
    (alaw_by_name : PySem.W.nsIn K mainGlobals "_law_by_name" = some (some (.ref flaw_by_name)))
    (llaw_by_name : K.lookup flaw_by_name = some ⟨oclaw_by_name, odlaw_by_name, .func (PySem.W.fnOf "_law_by_name" "_law_by_name" (defArgs s_law_by_name) (defBody s_law_by_name) (defScope s_law_by_name) .none kVlaw_by_name dclaw_by_name pmlaw_by_name anlaw_by_name cdlaw_by_name ctlaw_by_name), sllaw_by_name⟩)
    (claw_by_name : PySem.W.codeIn K cdlaw_by_name "_law_by_name" = true) (klaw_by_name : PySem.W.keepIn K (.ref flaw_by_name) = true)
    (alaw : PySem.W.nsIn K mainGlobals "law" = some (some (.ref flaw)))
    (llaw : K.lookup flaw = some ⟨oclaw, odlaw, .func (PySem.W.fnOf "law" "law" (defArgs s_law) (defBody s_law) (defScope s_law) .none kVlaw dclaw pmlaw anlaw cdlaw ctlaw), sllaw⟩)
    (claw : PySem.W.codeIn K cdlaw "law" = true) (klaw : PySem.W.keepIn K (.ref flaw) = true)
    (aCCellError : PySem.W.nsIn K mainGlobals "CellError" = some (some (.ref CCellError)))
    (gaCellError : PySem.W.findIn K (.ref CCellError) "__getattribute__" = some (some (.builtin "BaseException.__getattribute__")))
    (gtCellError : PySem.W.findIn K (.ref CCellError) "__getattr__" = some none)
    (xsCellError : PySem.W.subIn K (.ref CCellError) (.type "BaseException") = some true)
    (hdCellError : PySem.W.hasDictIn K CCellError = true)
    (caCellError : PySem.W.findIn K (.ref CCellError) "__class__" = some (some (.builtin "object.__class__")))
    (cbCellError : PySem.W.specialIn K (.builtin "object.__class__") "__get__" = some (some (.builtin "getset_descriptor.__get__")))
    (ccCellError : PySem.W.takesIn K (.builtin "object.__class__") = some true)
    (cdCellError : PySem.W.mroIn K CCellError (.type "object") = some true)
    (exCellError : PySem.W.excIn K CCellError [.type "ValueError", .type "Exception", .type "BaseException", .type "object"] "ValueError.__new__" = true)
    (kcCellError : PySem.W.keepIn K (.ref CCellError) = true)
    (rdCellError : PySem.W.readsIn K CCellError (.type "type") = true)
    (rgCellError : PySem.W.specialIn K (.ref CCellError) "__getattribute__" = some (some (.builtin "type.__getattribute__")))
    (viCellError : PySem.W.findCls K (.ref CCellError) (.type "type") "__init__" = some (.val (.builtin "ValueError.__init__")))
    (aCInvalidCell : PySem.W.nsIn K mainGlobals "InvalidCell" = some (some (.ref CInvalidCell)))
    (gaInvalidCell : PySem.W.findIn K (.ref CInvalidCell) "__getattribute__" = some (some (.builtin "BaseException.__getattribute__")))
    (gtInvalidCell : PySem.W.findIn K (.ref CInvalidCell) "__getattr__" = some none)
    (xsInvalidCell : PySem.W.subIn K (.ref CInvalidCell) (.type "BaseException") = some true)
    (hdInvalidCell : PySem.W.hasDictIn K CInvalidCell = true)
    (caInvalidCell : PySem.W.findIn K (.ref CInvalidCell) "__class__" = some (some (.builtin "object.__class__")))
    (cbInvalidCell : PySem.W.specialIn K (.builtin "object.__class__") "__get__" = some (some (.builtin "getset_descriptor.__get__")))
    (ccInvalidCell : PySem.W.takesIn K (.builtin "object.__class__") = some true)
    (cdInvalidCell : PySem.W.mroIn K CInvalidCell (.type "object") = some true)
    (lkInvalidCell : K.lookup CInvalidCell = some (excClassObj q1InvalidCell q2InvalidCell CInvalidCell q3InvalidCell q4InvalidCell q5InvalidCell true q6InvalidCell q7InvalidCell q8InvalidCell q9InvalidCell qaInvalidCell qbInvalidCell qcInvalidCell qdInvalidCell qeInvalidCell qfInvalidCell "ValueError.__new__"))
    (vbInvalidCell : PySem.HandSPX.refsVE q5InvalidCell = true)
    (saInvalidCell : PySem.W.findIn K (.ref CInvalidCell) "__setattr__" = some (some (.builtin "object.__setattr__")))
    (tyInvalidCell : PySem.W.typeIn K (.ref CInvalidCell) = some (.type "type"))
    (kcInvalidCell : PySem.W.keepIn K (.ref CInvalidCell) = true)
    (fnInvalidCell : PySem.W.typeIn K (.ref fInvalidCell___init) = some (.type "function"))
    (noInvalidCell : PySem.W.findIn K (.ref CInvalidCell) "value" = some none)
    (aCInvalidForm : PySem.W.nsIn K mainGlobals "InvalidForm" = some (some (.ref CInvalidForm)))
    (gaInvalidForm : PySem.W.findIn K (.ref CInvalidForm) "__getattribute__" = some (some (.builtin "BaseException.__getattribute__")))
    (gtInvalidForm : PySem.W.findIn K (.ref CInvalidForm) "__getattr__" = some none)
    (xsInvalidForm : PySem.W.subIn K (.ref CInvalidForm) (.type "BaseException") = some true)
    (hdInvalidForm : PySem.W.hasDictIn K CInvalidForm = true)
    (caInvalidForm : PySem.W.findIn K (.ref CInvalidForm) "__class__" = some (some (.builtin "object.__class__")))
    (cbInvalidForm : PySem.W.specialIn K (.builtin "object.__class__") "__get__" = some (some (.builtin "getset_descriptor.__get__")))
    (ccInvalidForm : PySem.W.takesIn K (.builtin "object.__class__") = some true)
    (cdInvalidForm : PySem.W.mroIn K CInvalidForm (.type "object") = some true)
    (lkInvalidForm : K.lookup CInvalidForm = some (excClassObj q1InvalidForm q2InvalidForm CInvalidForm q3InvalidForm q4InvalidForm q5InvalidForm true q6InvalidForm q7InvalidForm q8InvalidForm q9InvalidForm qaInvalidForm qbInvalidForm qcInvalidForm qdInvalidForm qeInvalidForm qfInvalidForm "ValueError.__new__"))
    (vbInvalidForm : PySem.HandSPX.refsVE q5InvalidForm = true)
    (saInvalidForm : PySem.W.findIn K (.ref CInvalidForm) "__setattr__" = some (some (.builtin "object.__setattr__")))
    (tyInvalidForm : PySem.W.typeIn K (.ref CInvalidForm) = some (.type "type"))
    (kcInvalidForm : PySem.W.keepIn K (.ref CInvalidForm) = true)
    (fnInvalidForm : PySem.W.typeIn K (.ref fInvalidForm___init) = some (.type "function"))
    (noInvalidForm : PySem.W.findIn K (.ref CInvalidForm) "value" = some none)
    (aCInvalidLetter : PySem.W.nsIn K mainGlobals "InvalidLetter" = some (some (.ref CInvalidLetter)))
    (gaInvalidLetter : PySem.W.findIn K (.ref CInvalidLetter) "__getattribute__" = some (some (.builtin "BaseException.__getattribute__")))
    (gtInvalidLetter : PySem.W.findIn K (.ref CInvalidLetter) "__getattr__" = some none)
    (xsInvalidLetter : PySem.W.subIn K (.ref CInvalidLetter) (.type "BaseException") = some true)
    (hdInvalidLetter : PySem.W.hasDictIn K CInvalidLetter = true)
    (caInvalidLetter : PySem.W.findIn K (.ref CInvalidLetter) "__class__" = some (some (.builtin "object.__class__")))
    (cbInvalidLetter : PySem.W.specialIn K (.builtin "object.__class__") "__get__" = some (some (.builtin "getset_descriptor.__get__")))
    (ccInvalidLetter : PySem.W.takesIn K (.builtin "object.__class__") = some true)
    (cdInvalidLetter : PySem.W.mroIn K CInvalidLetter (.type "object") = some true)
    (lkInvalidLetter : K.lookup CInvalidLetter = some (excClassObj q1InvalidLetter q2InvalidLetter CInvalidLetter q3InvalidLetter q4InvalidLetter q5InvalidLetter true q6InvalidLetter q7InvalidLetter q8InvalidLetter q9InvalidLetter qaInvalidLetter qbInvalidLetter qcInvalidLetter qdInvalidLetter qeInvalidLetter qfInvalidLetter "ValueError.__new__"))
    (vbInvalidLetter : PySem.HandSPX.refsVE q5InvalidLetter = true)
    (saInvalidLetter : PySem.W.findIn K (.ref CInvalidLetter) "__setattr__" = some (some (.builtin "object.__setattr__")))
    (tyInvalidLetter : PySem.W.typeIn K (.ref CInvalidLetter) = some (.type "type"))
    (kcInvalidLetter : PySem.W.keepIn K (.ref CInvalidLetter) = true)
    (fnInvalidLetter : PySem.W.typeIn K (.ref fInvalidLetter___init) = some (.type "function"))
    (noInvalidLetter : PySem.W.findIn K (.ref CInvalidLetter) "value" = some none)
    (aCInvalidLoops : PySem.W.nsIn K mainGlobals "InvalidLoops" = some (some (.ref CInvalidLoops)))
    (gaInvalidLoops : PySem.W.findIn K (.ref CInvalidLoops) "__getattribute__" = some (some (.builtin "BaseException.__getattribute__")))
    (gtInvalidLoops : PySem.W.findIn K (.ref CInvalidLoops) "__getattr__" = some none)
    (xsInvalidLoops : PySem.W.subIn K (.ref CInvalidLoops) (.type "BaseException") = some true)
    (hdInvalidLoops : PySem.W.hasDictIn K CInvalidLoops = true)
    (caInvalidLoops : PySem.W.findIn K (.ref CInvalidLoops) "__class__" = some (some (.builtin "object.__class__")))
    (cbInvalidLoops : PySem.W.specialIn K (.builtin "object.__class__") "__get__" = some (some (.builtin "getset_descriptor.__get__")))
    (ccInvalidLoops : PySem.W.takesIn K (.builtin "object.__class__") = some true)
    (cdInvalidLoops : PySem.W.mroIn K CInvalidLoops (.type "object") = some true)
    (lkInvalidLoops : K.lookup CInvalidLoops = some (excClassObj q1InvalidLoops q2InvalidLoops CInvalidLoops q3InvalidLoops q4InvalidLoops q5InvalidLoops true q6InvalidLoops q7InvalidLoops q8InvalidLoops q9InvalidLoops qaInvalidLoops qbInvalidLoops qcInvalidLoops qdInvalidLoops qeInvalidLoops qfInvalidLoops "ValueError.__new__"))
    (vbInvalidLoops : PySem.HandSPX.refsVE q5InvalidLoops = true)
    (saInvalidLoops : PySem.W.findIn K (.ref CInvalidLoops) "__setattr__" = some (some (.builtin "object.__setattr__")))
    (tyInvalidLoops : PySem.W.typeIn K (.ref CInvalidLoops) = some (.type "type"))
    (kcInvalidLoops : PySem.W.keepIn K (.ref CInvalidLoops) = true)
    (fnInvalidLoops : PySem.W.typeIn K (.ref fInvalidLoops___init) = some (.type "function"))
    (noInvalidLoops : PySem.W.findIn K (.ref CInvalidLoops) "value" = some none)
    (aCInvalidNumber : PySem.W.nsIn K mainGlobals "InvalidNumber" = some (some (.ref CInvalidNumber)))
    (gaInvalidNumber : PySem.W.findIn K (.ref CInvalidNumber) "__getattribute__" = some (some (.builtin "BaseException.__getattribute__")))
    (gtInvalidNumber : PySem.W.findIn K (.ref CInvalidNumber) "__getattr__" = some none)
    (xsInvalidNumber : PySem.W.subIn K (.ref CInvalidNumber) (.type "BaseException") = some true)
    (hdInvalidNumber : PySem.W.hasDictIn K CInvalidNumber = true)
    (caInvalidNumber : PySem.W.findIn K (.ref CInvalidNumber) "__class__" = some (some (.builtin "object.__class__")))
    (cbInvalidNumber : PySem.W.specialIn K (.builtin "object.__class__") "__get__" = some (some (.builtin "getset_descriptor.__get__")))
    (ccInvalidNumber : PySem.W.takesIn K (.builtin "object.__class__") = some true)
    (cdInvalidNumber : PySem.W.mroIn K CInvalidNumber (.type "object") = some true)
    (lkInvalidNumber : K.lookup CInvalidNumber = some (excClassObj q1InvalidNumber q2InvalidNumber CInvalidNumber q3InvalidNumber q4InvalidNumber q5InvalidNumber true q6InvalidNumber q7InvalidNumber q8InvalidNumber q9InvalidNumber qaInvalidNumber qbInvalidNumber qcInvalidNumber qdInvalidNumber qeInvalidNumber qfInvalidNumber "ValueError.__new__"))
    (vbInvalidNumber : PySem.HandSPX.refsVE q5InvalidNumber = true)
    (saInvalidNumber : PySem.W.findIn K (.ref CInvalidNumber) "__setattr__" = some (some (.builtin "object.__setattr__")))
    (tyInvalidNumber : PySem.W.typeIn K (.ref CInvalidNumber) = some (.type "type"))
    (kcInvalidNumber : PySem.W.keepIn K (.ref CInvalidNumber) = true)
    (fnInvalidNumber : PySem.W.typeIn K (.ref fInvalidNumber___init) = some (.type "function"))
    (noInvalidNumber : PySem.W.findIn K (.ref CInvalidNumber) "value" = some none)
    (aCInvalidShape : PySem.W.nsIn K mainGlobals "InvalidShape" = some (some (.ref CInvalidShape)))
    (gaInvalidShape : PySem.W.findIn K (.ref CInvalidShape) "__getattribute__" = some (some (.builtin "BaseException.__getattribute__")))
    (gtInvalidShape : PySem.W.findIn K (.ref CInvalidShape) "__getattr__" = some none)
    (xsInvalidShape : PySem.W.subIn K (.ref CInvalidShape) (.type "BaseException") = some true)
    (hdInvalidShape : PySem.W.hasDictIn K CInvalidShape = true)
    (caInvalidShape : PySem.W.findIn K (.ref CInvalidShape) "__class__" = some (some (.builtin "object.__class__")))
    (cbInvalidShape : PySem.W.specialIn K (.builtin "object.__class__") "__get__" = some (some (.builtin "getset_descriptor.__get__")))
    (ccInvalidShape : PySem.W.takesIn K (.builtin "object.__class__") = some true)
    (cdInvalidShape : PySem.W.mroIn K CInvalidShape (.type "object") = some true)
    (lkInvalidShape : K.lookup CInvalidShape = some (excClassObj q1InvalidShape q2InvalidShape CInvalidShape q3InvalidShape q4InvalidShape q5InvalidShape true q6InvalidShape q7InvalidShape q8InvalidShape q9InvalidShape qaInvalidShape qbInvalidShape qcInvalidShape qdInvalidShape qeInvalidShape qfInvalidShape "ValueError.__new__"))
    (vbInvalidShape : PySem.HandSPX.refsVE q5InvalidShape = true)
    (saInvalidShape : PySem.W.findIn K (.ref CInvalidShape) "__setattr__" = some (some (.builtin "object.__setattr__")))
    (tyInvalidShape : PySem.W.typeIn K (.ref CInvalidShape) = some (.type "type"))
    (kcInvalidShape : PySem.W.keepIn K (.ref CInvalidShape) = true)
    (fnInvalidShape : PySem.W.typeIn K (.ref fInvalidShape___init) = some (.type "function"))
    (noInvalidShape : PySem.W.findIn K (.ref CInvalidShape) "value" = some none)
    (aCInvalidSides : PySem.W.nsIn K mainGlobals "InvalidSides" = some (some (.ref CInvalidSides)))
    (gaInvalidSides : PySem.W.findIn K (.ref CInvalidSides) "__getattribute__" = some (some (.builtin "BaseException.__getattribute__")))
    (gtInvalidSides : PySem.W.findIn K (.ref CInvalidSides) "__getattr__" = some none)
    (xsInvalidSides : PySem.W.subIn K (.ref CInvalidSides) (.type "BaseException") = some true)
    (hdInvalidSides : PySem.W.hasDictIn K CInvalidSides = true)
    (caInvalidSides : PySem.W.findIn K (.ref CInvalidSides) "__class__" = some (some (.builtin "object.__class__")))
    (cbInvalidSides : PySem.W.specialIn K (.builtin "object.__class__") "__get__" = some (some (.builtin "getset_descriptor.__get__")))
    (ccInvalidSides : PySem.W.takesIn K (.builtin "object.__class__") = some true)
    (cdInvalidSides : PySem.W.mroIn K CInvalidSides (.type "object") = some true)
    (lkInvalidSides : K.lookup CInvalidSides = some (excClassObj q1InvalidSides q2InvalidSides CInvalidSides q3InvalidSides q4InvalidSides q5InvalidSides true q6InvalidSides q7InvalidSides q8InvalidSides q9InvalidSides qaInvalidSides qbInvalidSides qcInvalidSides qdInvalidSides qeInvalidSides qfInvalidSides "ValueError.__new__"))
    (vbInvalidSides : PySem.HandSPX.refsVE q5InvalidSides = true)
    (saInvalidSides : PySem.W.findIn K (.ref CInvalidSides) "__setattr__" = some (some (.builtin "object.__setattr__")))
    (tyInvalidSides : PySem.W.typeIn K (.ref CInvalidSides) = some (.type "type"))
    (kcInvalidSides : PySem.W.keepIn K (.ref CInvalidSides) = true)
    (fnInvalidSides : PySem.W.typeIn K (.ref fInvalidSides___init) = some (.type "function"))
    (noInvalidSides : PySem.W.findIn K (.ref CInvalidSides) "value" = some none)
    (aCInvalidTable : PySem.W.nsIn K mainGlobals "InvalidTable" = some (some (.ref CInvalidTable)))
    (gaInvalidTable : PySem.W.findIn K (.ref CInvalidTable) "__getattribute__" = some (some (.builtin "BaseException.__getattribute__")))
    (gtInvalidTable : PySem.W.findIn K (.ref CInvalidTable) "__getattr__" = some none)
    (xsInvalidTable : PySem.W.subIn K (.ref CInvalidTable) (.type "BaseException") = some true)
    (hdInvalidTable : PySem.W.hasDictIn K CInvalidTable = true)
    (caInvalidTable : PySem.W.findIn K (.ref CInvalidTable) "__class__" = some (some (.builtin "object.__class__")))
    (cbInvalidTable : PySem.W.specialIn K (.builtin "object.__class__") "__get__" = some (some (.builtin "getset_descriptor.__get__")))
    (ccInvalidTable : PySem.W.takesIn K (.builtin "object.__class__") = some true)
    (cdInvalidTable : PySem.W.mroIn K CInvalidTable (.type "object") = some true)
    (lkInvalidTable : K.lookup CInvalidTable = some (excClassObj q1InvalidTable q2InvalidTable CInvalidTable q3InvalidTable q4InvalidTable q5InvalidTable true q6InvalidTable q7InvalidTable q8InvalidTable q9InvalidTable qaInvalidTable qbInvalidTable qcInvalidTable qdInvalidTable qeInvalidTable qfInvalidTable "ValueError.__new__"))
    (vbInvalidTable : PySem.HandSPX.refsVE q5InvalidTable = true)
    (saInvalidTable : PySem.W.findIn K (.ref CInvalidTable) "__setattr__" = some (some (.builtin "object.__setattr__")))
    (tyInvalidTable : PySem.W.typeIn K (.ref CInvalidTable) = some (.type "type"))
    (kcInvalidTable : PySem.W.keepIn K (.ref CInvalidTable) = true)
    (fnInvalidTable : PySem.W.typeIn K (.ref fInvalidTable___init) = some (.type "function"))
    (noInvalidTable : PySem.W.findIn K (.ref CInvalidTable) "value" = some none)
    (aCInvalidText : PySem.W.nsIn K mainGlobals "InvalidText" = some (some (.ref CInvalidText)))
    (gaInvalidText : PySem.W.findIn K (.ref CInvalidText) "__getattribute__" = some (some (.builtin "BaseException.__getattribute__")))
    (gtInvalidText : PySem.W.findIn K (.ref CInvalidText) "__getattr__" = some none)
    (xsInvalidText : PySem.W.subIn K (.ref CInvalidText) (.type "BaseException") = some true)
    (hdInvalidText : PySem.W.hasDictIn K CInvalidText = true)
    (caInvalidText : PySem.W.findIn K (.ref CInvalidText) "__class__" = some (some (.builtin "object.__class__")))
    (cbInvalidText : PySem.W.specialIn K (.builtin "object.__class__") "__get__" = some (some (.builtin "getset_descriptor.__get__")))
    (ccInvalidText : PySem.W.takesIn K (.builtin "object.__class__") = some true)
    (cdInvalidText : PySem.W.mroIn K CInvalidText (.type "object") = some true)
    (lkInvalidText : K.lookup CInvalidText = some (excClassObj q1InvalidText q2InvalidText CInvalidText q3InvalidText q4InvalidText q5InvalidText true q6InvalidText q7InvalidText q8InvalidText q9InvalidText qaInvalidText qbInvalidText qcInvalidText qdInvalidText qeInvalidText qfInvalidText "ValueError.__new__"))
    (vbInvalidText : PySem.HandSPX.refsVE q5InvalidText = true)
    (saInvalidText : PySem.W.findIn K (.ref CInvalidText) "__setattr__" = some (some (.builtin "object.__setattr__")))
    (tyInvalidText : PySem.W.typeIn K (.ref CInvalidText) = some (.type "type"))
    (kcInvalidText : PySem.W.keepIn K (.ref CInvalidText) = true)
    (fnInvalidText : PySem.W.typeIn K (.ref fInvalidText___init) = some (.type "function"))
    (noInvalidText : PySem.W.findIn K (.ref CInvalidText) "value" = some none)
    (aCInvalidValues : PySem.W.nsIn K mainGlobals "InvalidValues" = some (some (.ref CInvalidValues)))
    (gaInvalidValues : PySem.W.findIn K (.ref CInvalidValues) "__getattribute__" = some (some (.builtin "BaseException.__getattribute__")))
    (gtInvalidValues : PySem.W.findIn K (.ref CInvalidValues) "__getattr__" = some none)
    (xsInvalidValues : PySem.W.subIn K (.ref CInvalidValues) (.type "BaseException") = some true)
    (hdInvalidValues : PySem.W.hasDictIn K CInvalidValues = true)
    (caInvalidValues : PySem.W.findIn K (.ref CInvalidValues) "__class__" = some (some (.builtin "object.__class__")))
    (cbInvalidValues : PySem.W.specialIn K (.builtin "object.__class__") "__get__" = some (some (.builtin "getset_descriptor.__get__")))
    (ccInvalidValues : PySem.W.takesIn K (.builtin "object.__class__") = some true)
    (cdInvalidValues : PySem.W.mroIn K CInvalidValues (.type "object") = some true)
    (lkInvalidValues : K.lookup CInvalidValues = some (excClassObj q1InvalidValues q2InvalidValues CInvalidValues q3InvalidValues q4InvalidValues q5InvalidValues true q6InvalidValues q7InvalidValues q8InvalidValues q9InvalidValues qaInvalidValues qbInvalidValues qcInvalidValues qdInvalidValues qeInvalidValues qfInvalidValues "ValueError.__new__"))
    (vbInvalidValues : PySem.HandSPX.refsVE q5InvalidValues = true)
    (saInvalidValues : PySem.W.findIn K (.ref CInvalidValues) "__setattr__" = some (some (.builtin "object.__setattr__")))
    (tyInvalidValues : PySem.W.typeIn K (.ref CInvalidValues) = some (.type "type"))
    (kcInvalidValues : PySem.W.keepIn K (.ref CInvalidValues) = true)
    (fnInvalidValues : PySem.W.typeIn K (.ref fInvalidValues___init) = some (.type "function"))
    (noInvalidValues : PySem.W.findIn K (.ref CInvalidValues) "value" = some none)
    (aCInvalidWalk : PySem.W.nsIn K mainGlobals "InvalidWalk" = some (some (.ref CInvalidWalk)))
    (gaInvalidWalk : PySem.W.findIn K (.ref CInvalidWalk) "__getattribute__" = some (some (.builtin "BaseException.__getattribute__")))
    (gtInvalidWalk : PySem.W.findIn K (.ref CInvalidWalk) "__getattr__" = some none)
    (xsInvalidWalk : PySem.W.subIn K (.ref CInvalidWalk) (.type "BaseException") = some true)
    (hdInvalidWalk : PySem.W.hasDictIn K CInvalidWalk = true)
    (caInvalidWalk : PySem.W.findIn K (.ref CInvalidWalk) "__class__" = some (some (.builtin "object.__class__")))
    (cbInvalidWalk : PySem.W.specialIn K (.builtin "object.__class__") "__get__" = some (some (.builtin "getset_descriptor.__get__")))
    (ccInvalidWalk : PySem.W.takesIn K (.builtin "object.__class__") = some true)
    (cdInvalidWalk : PySem.W.mroIn K CInvalidWalk (.type "object") = some true)
    (lkInvalidWalk : K.lookup CInvalidWalk = some (excClassObj q1InvalidWalk q2InvalidWalk CInvalidWalk q3InvalidWalk q4InvalidWalk q5InvalidWalk true q6InvalidWalk q7InvalidWalk q8InvalidWalk q9InvalidWalk qaInvalidWalk qbInvalidWalk qcInvalidWalk qdInvalidWalk qeInvalidWalk qfInvalidWalk "ValueError.__new__"))
    (vbInvalidWalk : PySem.HandSPX.refsVE q5InvalidWalk = true)
    (saInvalidWalk : PySem.W.findIn K (.ref CInvalidWalk) "__setattr__" = some (some (.builtin "object.__setattr__")))
    (tyInvalidWalk : PySem.W.typeIn K (.ref CInvalidWalk) = some (.type "type"))
    (kcInvalidWalk : PySem.W.keepIn K (.ref CInvalidWalk) = true)
    (fnInvalidWalk : PySem.W.typeIn K (.ref fInvalidWalk___init) = some (.type "function"))
    (noInvalidWalk : PySem.W.findIn K (.ref CInvalidWalk) "value" = some none)
    (aCMismatchedShapes : PySem.W.nsIn K mainGlobals "MismatchedShapes" = some (some (.ref CMismatchedShapes)))
    (gaMismatchedShapes : PySem.W.findIn K (.ref CMismatchedShapes) "__getattribute__" = some (some (.builtin "BaseException.__getattribute__")))
    (gtMismatchedShapes : PySem.W.findIn K (.ref CMismatchedShapes) "__getattr__" = some none)
    (xsMismatchedShapes : PySem.W.subIn K (.ref CMismatchedShapes) (.type "BaseException") = some true)
    (hdMismatchedShapes : PySem.W.hasDictIn K CMismatchedShapes = true)
    (caMismatchedShapes : PySem.W.findIn K (.ref CMismatchedShapes) "__class__" = some (some (.builtin "object.__class__")))
    (cbMismatchedShapes : PySem.W.specialIn K (.builtin "object.__class__") "__get__" = some (some (.builtin "getset_descriptor.__get__")))
    (ccMismatchedShapes : PySem.W.takesIn K (.builtin "object.__class__") = some true)
    (cdMismatchedShapes : PySem.W.mroIn K CMismatchedShapes (.type "object") = some true)
    (exMismatchedShapes : PySem.W.excIn K CMismatchedShapes [.type "ValueError", .type "Exception", .type "BaseException", .type "object"] "ValueError.__new__" = true)
    (kcMismatchedShapes : PySem.W.keepIn K (.ref CMismatchedShapes) = true)
    (aCNoRoom : PySem.W.nsIn K mainGlobals "NoRoom" = some (some (.ref CNoRoom)))
    (gaNoRoom : PySem.W.findIn K (.ref CNoRoom) "__getattribute__" = some (some (.builtin "BaseException.__getattribute__")))
    (gtNoRoom : PySem.W.findIn K (.ref CNoRoom) "__getattr__" = some none)
    (xsNoRoom : PySem.W.subIn K (.ref CNoRoom) (.type "BaseException") = some true)
    (hdNoRoom : PySem.W.hasDictIn K CNoRoom = true)
    (caNoRoom : PySem.W.findIn K (.ref CNoRoom) "__class__" = some (some (.builtin "object.__class__")))
    (cbNoRoom : PySem.W.specialIn K (.builtin "object.__class__") "__get__" = some (some (.builtin "getset_descriptor.__get__")))
    (ccNoRoom : PySem.W.takesIn K (.builtin "object.__class__") = some true)
    (cdNoRoom : PySem.W.mroIn K CNoRoom (.type "object") = some true)
    (lkNoRoom : K.lookup CNoRoom = some (excClassObj q1NoRoom q2NoRoom CNoRoom q3NoRoom q4NoRoom q5NoRoom true q6NoRoom q7NoRoom q8NoRoom q9NoRoom qaNoRoom qbNoRoom qcNoRoom qdNoRoom qeNoRoom qfNoRoom "ValueError.__new__"))
    (vbNoRoom : PySem.HandSPX.refsVE q5NoRoom = true)
    (saNoRoom : PySem.W.findIn K (.ref CNoRoom) "__setattr__" = some (some (.builtin "object.__setattr__")))
    (tyNoRoom : PySem.W.typeIn K (.ref CNoRoom) = some (.type "type"))
    (kcNoRoom : PySem.W.keepIn K (.ref CNoRoom) = true)
    (fnNoRoom : PySem.W.typeIn K (.ref fNoRoom___init) = some (.type "function"))
    (noNoRoom : PySem.W.findIn K (.ref CNoRoom) "place" = some none)
    (aCNothingToUndo : PySem.W.nsIn K mainGlobals "NothingToUndo" = some (some (.ref CNothingToUndo)))
    (gaNothingToUndo : PySem.W.findIn K (.ref CNothingToUndo) "__getattribute__" = some (some (.builtin "BaseException.__getattribute__")))
    (gtNothingToUndo : PySem.W.findIn K (.ref CNothingToUndo) "__getattr__" = some none)
    (xsNothingToUndo : PySem.W.subIn K (.ref CNothingToUndo) (.type "BaseException") = some true)
    (hdNothingToUndo : PySem.W.hasDictIn K CNothingToUndo = true)
    (caNothingToUndo : PySem.W.findIn K (.ref CNothingToUndo) "__class__" = some (some (.builtin "object.__class__")))
    (cbNothingToUndo : PySem.W.specialIn K (.builtin "object.__class__") "__get__" = some (some (.builtin "getset_descriptor.__get__")))
    (ccNothingToUndo : PySem.W.takesIn K (.builtin "object.__class__") = some true)
    (cdNothingToUndo : PySem.W.mroIn K CNothingToUndo (.type "object") = some true)
    (exNothingToUndo : PySem.W.excIn K CNothingToUndo [.type "ValueError", .type "Exception", .type "BaseException", .type "object"] "ValueError.__new__" = true)
    (kcNothingToUndo : PySem.W.keepIn K (.ref CNothingToUndo) = true)
    (aCSharedPlaces : PySem.W.nsIn K mainGlobals "SharedPlaces" = some (some (.ref CSharedPlaces)))
    (gaSharedPlaces : PySem.W.findIn K (.ref CSharedPlaces) "__getattribute__" = some (some (.builtin "BaseException.__getattribute__")))
    (gtSharedPlaces : PySem.W.findIn K (.ref CSharedPlaces) "__getattr__" = some none)
    (xsSharedPlaces : PySem.W.subIn K (.ref CSharedPlaces) (.type "BaseException") = some true)
    (hdSharedPlaces : PySem.W.hasDictIn K CSharedPlaces = true)
    (caSharedPlaces : PySem.W.findIn K (.ref CSharedPlaces) "__class__" = some (some (.builtin "object.__class__")))
    (cbSharedPlaces : PySem.W.specialIn K (.builtin "object.__class__") "__get__" = some (some (.builtin "getset_descriptor.__get__")))
    (ccSharedPlaces : PySem.W.takesIn K (.builtin "object.__class__") = some true)
    (cdSharedPlaces : PySem.W.mroIn K CSharedPlaces (.type "object") = some true)
    (exSharedPlaces : PySem.W.excIn K CSharedPlaces [.type "ValueError", .type "Exception", .type "BaseException", .type "object"] "ValueError.__new__" = true)
    (kcSharedPlaces : PySem.W.keepIn K (.ref CSharedPlaces) = true)
    (aCShortLoop : PySem.W.nsIn K mainGlobals "ShortLoop" = some (some (.ref CShortLoop)))
    (gaShortLoop : PySem.W.findIn K (.ref CShortLoop) "__getattribute__" = some (some (.builtin "BaseException.__getattribute__")))
    (gtShortLoop : PySem.W.findIn K (.ref CShortLoop) "__getattr__" = some none)
    (xsShortLoop : PySem.W.subIn K (.ref CShortLoop) (.type "BaseException") = some true)
    (hdShortLoop : PySem.W.hasDictIn K CShortLoop = true)
    (caShortLoop : PySem.W.findIn K (.ref CShortLoop) "__class__" = some (some (.builtin "object.__class__")))
    (cbShortLoop : PySem.W.specialIn K (.builtin "object.__class__") "__get__" = some (some (.builtin "getset_descriptor.__get__")))
    (ccShortLoop : PySem.W.takesIn K (.builtin "object.__class__") = some true)
    (cdShortLoop : PySem.W.mroIn K CShortLoop (.type "object") = some true)
    (lkShortLoop : K.lookup CShortLoop = some (excClassObj q1ShortLoop q2ShortLoop CShortLoop q3ShortLoop q4ShortLoop q5ShortLoop true q6ShortLoop q7ShortLoop q8ShortLoop q9ShortLoop qaShortLoop qbShortLoop qcShortLoop qdShortLoop qeShortLoop qfShortLoop "ValueError.__new__"))
    (vbShortLoop : PySem.HandSPX.refsVE q5ShortLoop = true)
    (saShortLoop : PySem.W.findIn K (.ref CShortLoop) "__setattr__" = some (some (.builtin "object.__setattr__")))
    (tyShortLoop : PySem.W.typeIn K (.ref CShortLoop) = some (.type "type"))
    (kcShortLoop : PySem.W.keepIn K (.ref CShortLoop) = true)
    (fnShortLoop : PySem.W.typeIn K (.ref fShortLoop___init) = some (.type "function"))
    (noShortLoop : PySem.W.findIn K (.ref CShortLoop) "name" = some none)
    (ktTab : kitTab K [CInvalidText, CInvalidForm, CInvalidLetter, CInvalidNumber, CInvalidLoops, CInvalidShape, CInvalidValues, CInvalidCell, CInvalidSides, CInvalidTable, CInvalidWalk, CShortLoop, CNoRoom, CMismatchedShapes, CSharedPlaces, CNothingToUndo] CCellError = true)
    (nValueError : PySem.W.nsIn K mainGlobals "ValueError" = some none)
    (nenumerate : PySem.W.nsIn K mainGlobals "enumerate" = some none)
    (nint : PySem.W.nsIn K mainGlobals "int" = some none)
    (nisinstance : PySem.W.nsIn K mainGlobals "isinstance" = some none)
    (nlen : PySem.W.nsIn K mainGlobals "len" = some none)
    (nlist : PySem.W.nsIn K mainGlobals "list" = some none)
    (nmax : PySem.W.nsIn K mainGlobals "max" = some none)
    (nrange : PySem.W.nsIn K mainGlobals "range" = some none)
    (nrepr : PySem.W.nsIn K mainGlobals "repr" = some none)
    (nsum : PySem.W.nsIn K mainGlobals "sum" = some none)
    : ∃ fd : FuncData, (∀ (s : Shared) (v : Value), BindsTo s fd ⟨[v], []⟩ [("_law_script", v)]) ∧ ∀ base : Heap, K.In base → base.Ns mainGlobals mg → FnG l.prog w K mg base CX0 4 fa fd ["_law_script"] (sp_top K) := by
  have e := hfa.symm.trans (PySem.W.mg_of X G alaw)
  cases e
  let T : Txt K mg := {
    a_InvalidText___init := fInvalidText___init, fd_InvalidText___init := _,
    F_InvalidText___init := ⟨⟨ocInvalidText___init, odInvalidText___init, dVInvalidText___init, kVInvalidText___init, dcInvalidText___init, pmInvalidText___init, anInvalidText___init, cdInvalidText___init, ctInvalidText___init, slInvalidText___init, rfl, lInvalidText___init, cInvalidText___init, dInvalidText___init, .inl rfl⟩, kInvalidText___init⟩,
    a_InvalidForm___init := fInvalidForm___init, fd_InvalidForm___init := _,
    F_InvalidForm___init := ⟨⟨ocInvalidForm___init, odInvalidForm___init, dVInvalidForm___init, kVInvalidForm___init, dcInvalidForm___init, pmInvalidForm___init, anInvalidForm___init, cdInvalidForm___init, ctInvalidForm___init, slInvalidForm___init, rfl, lInvalidForm___init, cInvalidForm___init, dInvalidForm___init, .inl rfl⟩, kInvalidForm___init⟩,
    a_InvalidLetter___init := fInvalidLetter___init, fd_InvalidLetter___init := _,
    F_InvalidLetter___init := ⟨⟨ocInvalidLetter___init, odInvalidLetter___init, dVInvalidLetter___init, kVInvalidLetter___init, dcInvalidLetter___init, pmInvalidLetter___init, anInvalidLetter___init, cdInvalidLetter___init, ctInvalidLetter___init, slInvalidLetter___init, rfl, lInvalidLetter___init, cInvalidLetter___init, dInvalidLetter___init, .inl rfl⟩, kInvalidLetter___init⟩,
    a_InvalidNumber___init := fInvalidNumber___init, fd_InvalidNumber___init := _,
    F_InvalidNumber___init := ⟨⟨ocInvalidNumber___init, odInvalidNumber___init, dVInvalidNumber___init, kVInvalidNumber___init, dcInvalidNumber___init, pmInvalidNumber___init, anInvalidNumber___init, cdInvalidNumber___init, ctInvalidNumber___init, slInvalidNumber___init, rfl, lInvalidNumber___init, cInvalidNumber___init, dInvalidNumber___init, .inl rfl⟩, kInvalidNumber___init⟩,
    a_InvalidLoops___init := fInvalidLoops___init, fd_InvalidLoops___init := _,
    F_InvalidLoops___init := ⟨⟨ocInvalidLoops___init, odInvalidLoops___init, dVInvalidLoops___init, kVInvalidLoops___init, dcInvalidLoops___init, pmInvalidLoops___init, anInvalidLoops___init, cdInvalidLoops___init, ctInvalidLoops___init, slInvalidLoops___init, rfl, lInvalidLoops___init, cInvalidLoops___init, dInvalidLoops___init, .inl rfl⟩, kInvalidLoops___init⟩,
    a_ShortLoop___init := fShortLoop___init, fd_ShortLoop___init := _,
    F_ShortLoop___init := ⟨⟨ocShortLoop___init, odShortLoop___init, dVShortLoop___init, kVShortLoop___init, dcShortLoop___init, pmShortLoop___init, anShortLoop___init, cdShortLoop___init, ctShortLoop___init, slShortLoop___init, rfl, lShortLoop___init, cShortLoop___init, dShortLoop___init, .inl rfl⟩, kShortLoop___init⟩,
    a_InvalidShape___init := fInvalidShape___init, fd_InvalidShape___init := _,
    F_InvalidShape___init := ⟨⟨ocInvalidShape___init, odInvalidShape___init, dVInvalidShape___init, kVInvalidShape___init, dcInvalidShape___init, pmInvalidShape___init, anInvalidShape___init, cdInvalidShape___init, ctInvalidShape___init, slInvalidShape___init, rfl, lInvalidShape___init, cInvalidShape___init, dInvalidShape___init, .inl rfl⟩, kInvalidShape___init⟩,
    a_InvalidValues___init := fInvalidValues___init, fd_InvalidValues___init := _,
    F_InvalidValues___init := ⟨⟨ocInvalidValues___init, odInvalidValues___init, dVInvalidValues___init, kVInvalidValues___init, dcInvalidValues___init, pmInvalidValues___init, anInvalidValues___init, cdInvalidValues___init, ctInvalidValues___init, slInvalidValues___init, rfl, lInvalidValues___init, cInvalidValues___init, dInvalidValues___init, .inl rfl⟩, kInvalidValues___init⟩,
    a_InvalidCell___init := fInvalidCell___init, fd_InvalidCell___init := _,
    F_InvalidCell___init := ⟨⟨ocInvalidCell___init, odInvalidCell___init, dVInvalidCell___init, kVInvalidCell___init, dcInvalidCell___init, pmInvalidCell___init, anInvalidCell___init, cdInvalidCell___init, ctInvalidCell___init, slInvalidCell___init, rfl, lInvalidCell___init, cInvalidCell___init, dInvalidCell___init, .inl rfl⟩, kInvalidCell___init⟩,
    a_InvalidSides___init := fInvalidSides___init, fd_InvalidSides___init := _,
    F_InvalidSides___init := ⟨⟨ocInvalidSides___init, odInvalidSides___init, dVInvalidSides___init, kVInvalidSides___init, dcInvalidSides___init, pmInvalidSides___init, anInvalidSides___init, cdInvalidSides___init, ctInvalidSides___init, slInvalidSides___init, rfl, lInvalidSides___init, cInvalidSides___init, dInvalidSides___init, .inl rfl⟩, kInvalidSides___init⟩,
    a_InvalidTable___init := fInvalidTable___init, fd_InvalidTable___init := _,
    F_InvalidTable___init := ⟨⟨ocInvalidTable___init, odInvalidTable___init, dVInvalidTable___init, kVInvalidTable___init, dcInvalidTable___init, pmInvalidTable___init, anInvalidTable___init, cdInvalidTable___init, ctInvalidTable___init, slInvalidTable___init, rfl, lInvalidTable___init, cInvalidTable___init, dInvalidTable___init, .inl rfl⟩, kInvalidTable___init⟩,
    a_InvalidWalk___init := fInvalidWalk___init, fd_InvalidWalk___init := _,
    F_InvalidWalk___init := ⟨⟨ocInvalidWalk___init, odInvalidWalk___init, dVInvalidWalk___init, kVInvalidWalk___init, dcInvalidWalk___init, pmInvalidWalk___init, anInvalidWalk___init, cdInvalidWalk___init, ctInvalidWalk___init, slInvalidWalk___init, rfl, lInvalidWalk___init, cInvalidWalk___init, dInvalidWalk___init, .inl rfl⟩, kInvalidWalk___init⟩,
    a_NoRoom___init := fNoRoom___init, fd_NoRoom___init := _,
    F_NoRoom___init := ⟨⟨ocNoRoom___init, odNoRoom___init, dVNoRoom___init, kVNoRoom___init, dcNoRoom___init, pmNoRoom___init, anNoRoom___init, cdNoRoom___init, ctNoRoom___init, slNoRoom___init, rfl, lNoRoom___init, cNoRoom___init, dNoRoom___init, .inl rfl⟩, kNoRoom___init⟩,
    a_law_classes := flaw_classes, fd_law_classes := _,
    F_law_classes := fun_mk (st := s_law_classes) llaw_classes claw_classes klaw_classes,
    m__law_classes := PySem.W.mg_of X G alaw_classes,
    a_law_fields := flaw_fields, fd_law_fields := _,
    F_law_fields := fun_mk (st := s_law_fields) llaw_fields claw_fields klaw_fields,
    m__law_fields := PySem.W.mg_of X G alaw_fields,
    a_law_placed := flaw_placed, fd_law_placed := _,
    F_law_placed := fun_mk (st := s_law_placed) llaw_placed claw_placed klaw_placed,
    m__law_placed := PySem.W.mg_of X G alaw_placed,
    a_law_thing := flaw_thing, fd_law_thing := _,
    F_law_thing := fun_mk (st := s_law_thing) llaw_thing claw_thing klaw_thing,
    m__law_thing := PySem.W.mg_of X G alaw_thing,
    a_law_made := flaw_made, fd_law_made := _,
    F_law_made := fun_mk (st := s_law_made) llaw_made claw_made klaw_made,
    m__law_made := PySem.W.mg_of X G alaw_made,
    a_law_by_name := flaw_by_name, fd_law_by_name := _,
    F_law_by_name := fun_mk (st := s_law_by_name) llaw_by_name claw_by_name klaw_by_name,
    m__law_by_name := PySem.W.mg_of X G alaw_by_name,
    a_law := fa, fd_law := _,
    F_law := fun_mk (st := s_law) llaw claw klaw,
    m_law := PySem.W.mg_of X G alaw,
    a_CellError := CCellError, m_CellError := PySem.W.mg_of X G aCCellError,
    x_CellError := exCellError, kx_CellError := kcCellError, ec_CellError := ⟨gaCellError, gtCellError, xsCellError, hdCellError, caCellError, cbCellError, ccCellError, cdCellError⟩,
    cr_CellError := ⟨rdCellError, rgCellError⟩, vi_CellError := viCellError,
    a_InvalidCell := CInvalidCell, m_InvalidCell := PySem.W.mg_of X G aCInvalidCell,
    e_InvalidCell := ⟨⟨⟨_, _, _, _, _, _, _, _, _, _, _, _, _, _, _, lkInvalidCell, vbInvalidCell⟩, saInvalidCell, xsInvalidCell, tyInvalidCell, kcInvalidCell⟩, aInvalidCell___init, fnInvalidCell, ⟨gaInvalidCell, gtInvalidCell, xsInvalidCell, hdInvalidCell⟩, ⟨gaInvalidCell, gtInvalidCell, xsInvalidCell, hdInvalidCell, caInvalidCell, cbInvalidCell, ccInvalidCell, cdInvalidCell⟩, noInvalidCell⟩,
    a_InvalidForm := CInvalidForm, m_InvalidForm := PySem.W.mg_of X G aCInvalidForm,
    e_InvalidForm := ⟨⟨⟨_, _, _, _, _, _, _, _, _, _, _, _, _, _, _, lkInvalidForm, vbInvalidForm⟩, saInvalidForm, xsInvalidForm, tyInvalidForm, kcInvalidForm⟩, aInvalidForm___init, fnInvalidForm, ⟨gaInvalidForm, gtInvalidForm, xsInvalidForm, hdInvalidForm⟩, ⟨gaInvalidForm, gtInvalidForm, xsInvalidForm, hdInvalidForm, caInvalidForm, cbInvalidForm, ccInvalidForm, cdInvalidForm⟩, noInvalidForm⟩,
    a_InvalidLetter := CInvalidLetter, m_InvalidLetter := PySem.W.mg_of X G aCInvalidLetter,
    e_InvalidLetter := ⟨⟨⟨_, _, _, _, _, _, _, _, _, _, _, _, _, _, _, lkInvalidLetter, vbInvalidLetter⟩, saInvalidLetter, xsInvalidLetter, tyInvalidLetter, kcInvalidLetter⟩, aInvalidLetter___init, fnInvalidLetter, ⟨gaInvalidLetter, gtInvalidLetter, xsInvalidLetter, hdInvalidLetter⟩, ⟨gaInvalidLetter, gtInvalidLetter, xsInvalidLetter, hdInvalidLetter, caInvalidLetter, cbInvalidLetter, ccInvalidLetter, cdInvalidLetter⟩, noInvalidLetter⟩,
    a_InvalidLoops := CInvalidLoops, m_InvalidLoops := PySem.W.mg_of X G aCInvalidLoops,
    e_InvalidLoops := ⟨⟨⟨_, _, _, _, _, _, _, _, _, _, _, _, _, _, _, lkInvalidLoops, vbInvalidLoops⟩, saInvalidLoops, xsInvalidLoops, tyInvalidLoops, kcInvalidLoops⟩, aInvalidLoops___init, fnInvalidLoops, ⟨gaInvalidLoops, gtInvalidLoops, xsInvalidLoops, hdInvalidLoops⟩, ⟨gaInvalidLoops, gtInvalidLoops, xsInvalidLoops, hdInvalidLoops, caInvalidLoops, cbInvalidLoops, ccInvalidLoops, cdInvalidLoops⟩, noInvalidLoops⟩,
    a_InvalidNumber := CInvalidNumber, m_InvalidNumber := PySem.W.mg_of X G aCInvalidNumber,
    e_InvalidNumber := ⟨⟨⟨_, _, _, _, _, _, _, _, _, _, _, _, _, _, _, lkInvalidNumber, vbInvalidNumber⟩, saInvalidNumber, xsInvalidNumber, tyInvalidNumber, kcInvalidNumber⟩, aInvalidNumber___init, fnInvalidNumber, ⟨gaInvalidNumber, gtInvalidNumber, xsInvalidNumber, hdInvalidNumber⟩, ⟨gaInvalidNumber, gtInvalidNumber, xsInvalidNumber, hdInvalidNumber, caInvalidNumber, cbInvalidNumber, ccInvalidNumber, cdInvalidNumber⟩, noInvalidNumber⟩,
    a_InvalidShape := CInvalidShape, m_InvalidShape := PySem.W.mg_of X G aCInvalidShape,
    e_InvalidShape := ⟨⟨⟨_, _, _, _, _, _, _, _, _, _, _, _, _, _, _, lkInvalidShape, vbInvalidShape⟩, saInvalidShape, xsInvalidShape, tyInvalidShape, kcInvalidShape⟩, aInvalidShape___init, fnInvalidShape, ⟨gaInvalidShape, gtInvalidShape, xsInvalidShape, hdInvalidShape⟩, ⟨gaInvalidShape, gtInvalidShape, xsInvalidShape, hdInvalidShape, caInvalidShape, cbInvalidShape, ccInvalidShape, cdInvalidShape⟩, noInvalidShape⟩,
    a_InvalidSides := CInvalidSides, m_InvalidSides := PySem.W.mg_of X G aCInvalidSides,
    e_InvalidSides := ⟨⟨⟨_, _, _, _, _, _, _, _, _, _, _, _, _, _, _, lkInvalidSides, vbInvalidSides⟩, saInvalidSides, xsInvalidSides, tyInvalidSides, kcInvalidSides⟩, aInvalidSides___init, fnInvalidSides, ⟨gaInvalidSides, gtInvalidSides, xsInvalidSides, hdInvalidSides⟩, ⟨gaInvalidSides, gtInvalidSides, xsInvalidSides, hdInvalidSides, caInvalidSides, cbInvalidSides, ccInvalidSides, cdInvalidSides⟩, noInvalidSides⟩,
    a_InvalidTable := CInvalidTable, m_InvalidTable := PySem.W.mg_of X G aCInvalidTable,
    e_InvalidTable := ⟨⟨⟨_, _, _, _, _, _, _, _, _, _, _, _, _, _, _, lkInvalidTable, vbInvalidTable⟩, saInvalidTable, xsInvalidTable, tyInvalidTable, kcInvalidTable⟩, aInvalidTable___init, fnInvalidTable, ⟨gaInvalidTable, gtInvalidTable, xsInvalidTable, hdInvalidTable⟩, ⟨gaInvalidTable, gtInvalidTable, xsInvalidTable, hdInvalidTable, caInvalidTable, cbInvalidTable, ccInvalidTable, cdInvalidTable⟩, noInvalidTable⟩,
    a_InvalidText := CInvalidText, m_InvalidText := PySem.W.mg_of X G aCInvalidText,
    e_InvalidText := ⟨⟨⟨_, _, _, _, _, _, _, _, _, _, _, _, _, _, _, lkInvalidText, vbInvalidText⟩, saInvalidText, xsInvalidText, tyInvalidText, kcInvalidText⟩, aInvalidText___init, fnInvalidText, ⟨gaInvalidText, gtInvalidText, xsInvalidText, hdInvalidText⟩, ⟨gaInvalidText, gtInvalidText, xsInvalidText, hdInvalidText, caInvalidText, cbInvalidText, ccInvalidText, cdInvalidText⟩, noInvalidText⟩,
    a_InvalidValues := CInvalidValues, m_InvalidValues := PySem.W.mg_of X G aCInvalidValues,
    e_InvalidValues := ⟨⟨⟨_, _, _, _, _, _, _, _, _, _, _, _, _, _, _, lkInvalidValues, vbInvalidValues⟩, saInvalidValues, xsInvalidValues, tyInvalidValues, kcInvalidValues⟩, aInvalidValues___init, fnInvalidValues, ⟨gaInvalidValues, gtInvalidValues, xsInvalidValues, hdInvalidValues⟩, ⟨gaInvalidValues, gtInvalidValues, xsInvalidValues, hdInvalidValues, caInvalidValues, cbInvalidValues, ccInvalidValues, cdInvalidValues⟩, noInvalidValues⟩,
    a_InvalidWalk := CInvalidWalk, m_InvalidWalk := PySem.W.mg_of X G aCInvalidWalk,
    e_InvalidWalk := ⟨⟨⟨_, _, _, _, _, _, _, _, _, _, _, _, _, _, _, lkInvalidWalk, vbInvalidWalk⟩, saInvalidWalk, xsInvalidWalk, tyInvalidWalk, kcInvalidWalk⟩, aInvalidWalk___init, fnInvalidWalk, ⟨gaInvalidWalk, gtInvalidWalk, xsInvalidWalk, hdInvalidWalk⟩, ⟨gaInvalidWalk, gtInvalidWalk, xsInvalidWalk, hdInvalidWalk, caInvalidWalk, cbInvalidWalk, ccInvalidWalk, cdInvalidWalk⟩, noInvalidWalk⟩,
    a_MismatchedShapes := CMismatchedShapes, m_MismatchedShapes := PySem.W.mg_of X G aCMismatchedShapes,
    x_MismatchedShapes := exMismatchedShapes, kx_MismatchedShapes := kcMismatchedShapes, ec_MismatchedShapes := ⟨gaMismatchedShapes, gtMismatchedShapes, xsMismatchedShapes, hdMismatchedShapes, caMismatchedShapes, cbMismatchedShapes, ccMismatchedShapes, cdMismatchedShapes⟩,
    a_NoRoom := CNoRoom, m_NoRoom := PySem.W.mg_of X G aCNoRoom,
    e_NoRoom := ⟨⟨⟨_, _, _, _, _, _, _, _, _, _, _, _, _, _, _, lkNoRoom, vbNoRoom⟩, saNoRoom, xsNoRoom, tyNoRoom, kcNoRoom⟩, aNoRoom___init, fnNoRoom, ⟨gaNoRoom, gtNoRoom, xsNoRoom, hdNoRoom⟩, ⟨gaNoRoom, gtNoRoom, xsNoRoom, hdNoRoom, caNoRoom, cbNoRoom, ccNoRoom, cdNoRoom⟩, noNoRoom⟩,
    a_NothingToUndo := CNothingToUndo, m_NothingToUndo := PySem.W.mg_of X G aCNothingToUndo,
    x_NothingToUndo := exNothingToUndo, kx_NothingToUndo := kcNothingToUndo, ec_NothingToUndo := ⟨gaNothingToUndo, gtNothingToUndo, xsNothingToUndo, hdNothingToUndo, caNothingToUndo, cbNothingToUndo, ccNothingToUndo, cdNothingToUndo⟩,
    a_SharedPlaces := CSharedPlaces, m_SharedPlaces := PySem.W.mg_of X G aCSharedPlaces,
    x_SharedPlaces := exSharedPlaces, kx_SharedPlaces := kcSharedPlaces, ec_SharedPlaces := ⟨gaSharedPlaces, gtSharedPlaces, xsSharedPlaces, hdSharedPlaces, caSharedPlaces, cbSharedPlaces, ccSharedPlaces, cdSharedPlaces⟩,
    a_ShortLoop := CShortLoop, m_ShortLoop := PySem.W.mg_of X G aCShortLoop,
    e_ShortLoop := ⟨⟨⟨_, _, _, _, _, _, _, _, _, _, _, _, _, _, _, lkShortLoop, vbShortLoop⟩, saShortLoop, xsShortLoop, tyShortLoop, kcShortLoop⟩, aShortLoop___init, fnShortLoop, ⟨gaShortLoop, gtShortLoop, xsShortLoop, hdShortLoop⟩, ⟨gaShortLoop, gtShortLoop, xsShortLoop, hdShortLoop, caShortLoop, cbShortLoop, ccShortLoop, cdShortLoop⟩, noShortLoop⟩,
    kt := ktTab,
    n_ValueError := PySem.W.mg_none_of X G nValueError,
    n_enumerate := PySem.W.mg_none_of X G nenumerate,
    n_int := PySem.W.mg_none_of X G nint,
    n_isinstance := PySem.W.mg_none_of X G nisinstance,
    n_len := PySem.W.mg_none_of X G nlen,
    n_list := PySem.W.mg_none_of X G nlist,
    n_max := PySem.W.mg_none_of X G nmax,
    n_range := PySem.W.mg_none_of X G nrange,
    n_repr := PySem.W.mg_none_of X G nrepr,
    n_sum := PySem.W.mg_none_of X G nsum }
  exact ⟨PySem.W.fnOf "law" "law" (defArgs s_law) (defBody s_law) (defScope s_law) .none kVlaw dclaw pmlaw anlaw cdlaw ctlaw, fun s v => .of_eq rfl, fun base _ _ => (ok_law T).imp fun vs H Q E z => sp_law_top T vs H Q E z⟩
theorem walk {l : PySem.W.OpenLaw} {q : Program} {loose : List Str} {XP : (Str → Option Value) → Heap → Prop} {YP : World → Heap → Prop} {d : DefRec} {K : Params → PySem.W.Frag} (hn : l.most = some 63) (hdf : d.params.defaults = [])
    (hY : ∀ (w : World) (h : Heap), YP w h → (K w.params).In h)
    (F : ∀ (w : World) (mg : Str → Option Value) (fa : Addr) (h : Heap), (K w.params).In h → h.Ns mainGlobals mg → mg d.name = some (.ref fa) →
      ∃ fd : FuncData, (∀ (s : Shared) (u : Value), BindsTo s fd ⟨[u], []⟩ [("_law_script", u)]) ∧ ∀ base : Heap, (K w.params).In base → base.Ns mainGlobals mg → FnG l.prog w (K w.params) mg base CX0 4 fa fd ["_law_script"] (sp_top (K w.params))) :
    PySem.W.WalkO q loose XP YP l.row.toRowW d [] (fun f vs => PySem.call f vs) :=
  CP.walk_G (n := 63) (k := 4) (x := "_law_script") (CX := fun _ => CX0) (sp := fun w => sp_top (K w.params)) hn (by decide) hdf ⟨rfl, by decide, by decide⟩ hY F (fun _ _ a ns hl _ hS => ⟨a, ns, rfl, hS, hl, fun _ => rfl⟩) fun _ _ _ _ _ z => z
end CP
open PySem PySem.W PyProof.Rows
set_option maxRecDepth 100000 in
set_option maxHeartbeats 0 in
theorem PySem.Challenge.cw_cellplaces_k01_errors_made_holds : PySem.Challenge.rw_cellplaces_k01_errors_made.Holds := by
  w_on; o_law; k_head; (case hw => w_witness2)
  k_fill
  refine CP.walk (l := PySem.Challenge.rw_cellplaces_k01_errors_made) rfl rfl (fun w h Y => PySem.W.kIn_of Y) ?F
  case F =>
    intro w mg fa h KX G hmg
    refine' CP.all_mk KX G hmg ?aInvalidText___init ?lInvalidText___init ?dInvalidText___init ?cInvalidText___init ?kInvalidText___init ?aInvalidForm___init ?lInvalidForm___init ?dInvalidForm___init ?cInvalidForm___init ?kInvalidForm___init ?aInvalidLetter___init ?lInvalidLetter___init ?dInvalidLetter___init ?cInvalidLetter___init ?kInvalidLetter___init ?aInvalidNumber___init ?lInvalidNumber___init ?dInvalidNumber___init ?cInvalidNumber___init ?kInvalidNumber___init ?aInvalidLoops___init ?lInvalidLoops___init ?dInvalidLoops___init ?cInvalidLoops___init ?kInvalidLoops___init ?aShortLoop___init ?lShortLoop___init ?dShortLoop___init ?cShortLoop___init ?kShortLoop___init ?aInvalidShape___init ?lInvalidShape___init ?dInvalidShape___init ?cInvalidShape___init ?kInvalidShape___init ?aInvalidValues___init ?lInvalidValues___init ?dInvalidValues___init ?cInvalidValues___init ?kInvalidValues___init ?aInvalidCell___init ?lInvalidCell___init ?dInvalidCell___init ?cInvalidCell___init ?kInvalidCell___init ?aInvalidSides___init ?lInvalidSides___init ?dInvalidSides___init ?cInvalidSides___init ?kInvalidSides___init ?aInvalidTable___init ?lInvalidTable___init ?dInvalidTable___init ?cInvalidTable___init ?kInvalidTable___init ?aInvalidWalk___init ?lInvalidWalk___init ?dInvalidWalk___init ?cInvalidWalk___init ?kInvalidWalk___init ?aNoRoom___init ?lNoRoom___init ?dNoRoom___init ?cNoRoom___init ?kNoRoom___init ?alaw_classes ?llaw_classes ?claw_classes ?klaw_classes ?alaw_fields ?llaw_fields ?claw_fields ?klaw_fields ?alaw_placed ?llaw_placed ?claw_placed ?klaw_placed ?alaw_thing ?llaw_thing ?claw_thing ?klaw_thing ?alaw_made ?llaw_made ?claw_made ?klaw_made ?alaw_by_name ?llaw_by_name ?claw_by_name ?klaw_by_name ?alaw ?llaw ?claw ?klaw ?aCCellError ?gaCellError ?gtCellError ?xsCellError ?hdCellError ?caCellError ?cbCellError ?ccCellError ?cdCellError ?exCellError ?kcCellError ?rdCellError ?rgCellError ?viCellError ?aCInvalidCell ?gaInvalidCell ?gtInvalidCell ?xsInvalidCell ?hdInvalidCell ?caInvalidCell ?cbInvalidCell ?ccInvalidCell ?cdInvalidCell ?lkInvalidCell ?vbInvalidCell ?saInvalidCell ?tyInvalidCell ?kcInvalidCell ?fnInvalidCell ?noInvalidCell ?aCInvalidForm ?gaInvalidForm ?gtInvalidForm ?xsInvalidForm ?hdInvalidForm ?caInvalidForm ?cbInvalidForm ?ccInvalidForm ?cdInvalidForm ?lkInvalidForm ?vbInvalidForm ?saInvalidForm ?tyInvalidForm ?kcInvalidForm ?fnInvalidForm ?noInvalidForm ?aCInvalidLetter ?gaInvalidLetter ?gtInvalidLetter ?xsInvalidLetter ?hdInvalidLetter ?caInvalidLetter ?cbInvalidLetter ?ccInvalidLetter ?cdInvalidLetter ?lkInvalidLetter ?vbInvalidLetter ?saInvalidLetter ?tyInvalidLetter ?kcInvalidLetter ?fnInvalidLetter ?noInvalidLetter ?aCInvalidLoops ?gaInvalidLoops ?gtInvalidLoops ?xsInvalidLoops ?hdInvalidLoops ?caInvalidLoops ?cbInvalidLoops ?ccInvalidLoops ?cdInvalidLoops ?lkInvalidLoops ?vbInvalidLoops ?saInvalidLoops ?tyInvalidLoops ?kcInvalidLoops ?fnInvalidLoops ?noInvalidLoops ?aCInvalidNumber ?gaInvalidNumber ?gtInvalidNumber ?xsInvalidNumber ?hdInvalidNumber ?caInvalidNumber ?cbInvalidNumber ?ccInvalidNumber ?cdInvalidNumber ?lkInvalidNumber ?vbInvalidNumber ?saInvalidNumber ?tyInvalidNumber ?kcInvalidNumber ?fnInvalidNumber ?noInvalidNumber ?aCInvalidShape ?gaInvalidShape ?gtInvalidShape ?xsInvalidShape ?hdInvalidShape ?caInvalidShape ?cbInvalidShape ?ccInvalidShape ?cdInvalidShape ?lkInvalidShape ?vbInvalidShape ?saInvalidShape ?tyInvalidShape ?kcInvalidShape ?fnInvalidShape ?noInvalidShape ?aCInvalidSides ?gaInvalidSides ?gtInvalidSides ?xsInvalidSides ?hdInvalidSides ?caInvalidSides ?cbInvalidSides ?ccInvalidSides ?cdInvalidSides ?lkInvalidSides ?vbInvalidSides ?saInvalidSides ?tyInvalidSides ?kcInvalidSides ?fnInvalidSides ?noInvalidSides ?aCInvalidTable ?gaInvalidTable ?gtInvalidTable ?xsInvalidTable ?hdInvalidTable ?caInvalidTable ?cbInvalidTable ?ccInvalidTable ?cdInvalidTable ?lkInvalidTable ?vbInvalidTable ?saInvalidTable ?tyInvalidTable ?kcInvalidTable ?fnInvalidTable ?noInvalidTable ?aCInvalidText ?gaInvalidText ?gtInvalidText ?xsInvalidText ?hdInvalidText ?caInvalidText ?cbInvalidText ?ccInvalidText ?cdInvalidText ?lkInvalidText ?vbInvalidText ?saInvalidText ?tyInvalidText ?kcInvalidText ?fnInvalidText ?noInvalidText ?aCInvalidValues ?gaInvalidValues ?gtInvalidValues ?xsInvalidValues ?hdInvalidValues ?caInvalidValues ?cbInvalidValues ?ccInvalidValues ?cdInvalidValues ?lkInvalidValues ?vbInvalidValues ?saInvalidValues ?tyInvalidValues ?kcInvalidValues ?fnInvalidValues ?noInvalidValues ?aCInvalidWalk ?gaInvalidWalk ?gtInvalidWalk ?xsInvalidWalk ?hdInvalidWalk ?caInvalidWalk ?cbInvalidWalk ?ccInvalidWalk ?cdInvalidWalk ?lkInvalidWalk ?vbInvalidWalk ?saInvalidWalk ?tyInvalidWalk ?kcInvalidWalk ?fnInvalidWalk ?noInvalidWalk ?aCMismatchedShapes ?gaMismatchedShapes ?gtMismatchedShapes ?xsMismatchedShapes ?hdMismatchedShapes ?caMismatchedShapes ?cbMismatchedShapes ?ccMismatchedShapes ?cdMismatchedShapes ?exMismatchedShapes ?kcMismatchedShapes ?aCNoRoom ?gaNoRoom ?gtNoRoom ?xsNoRoom ?hdNoRoom ?caNoRoom ?cbNoRoom ?ccNoRoom ?cdNoRoom ?lkNoRoom ?vbNoRoom ?saNoRoom ?tyNoRoom ?kcNoRoom ?fnNoRoom ?noNoRoom ?aCNothingToUndo ?gaNothingToUndo ?gtNothingToUndo ?xsNothingToUndo ?hdNothingToUndo ?caNothingToUndo ?cbNothingToUndo ?ccNothingToUndo ?cdNothingToUndo ?exNothingToUndo ?kcNothingToUndo ?aCSharedPlaces ?gaSharedPlaces ?gtSharedPlaces ?xsSharedPlaces ?hdSharedPlaces ?caSharedPlaces ?cbSharedPlaces ?ccSharedPlaces ?cdSharedPlaces ?exSharedPlaces ?kcSharedPlaces ?aCShortLoop ?gaShortLoop ?gtShortLoop ?xsShortLoop ?hdShortLoop ?caShortLoop ?cbShortLoop ?ccShortLoop ?cdShortLoop ?lkShortLoop ?vbShortLoop ?saShortLoop ?tyShortLoop ?kcShortLoop ?fnShortLoop ?noShortLoop ?ktTab ?nValueError ?nenumerate ?nint ?nisinstance ?nlen ?nlist ?nmax ?nrange ?nrepr ?nsum
    (case aCCellError => k_is)
    (case aCInvalidCell => k_is)
    (case aCInvalidForm => k_is)
    (case aCInvalidLetter => k_is)
    (case aCInvalidLoops => k_is)
    (case aCInvalidNumber => k_is)
    (case aCInvalidShape => k_is)
    (case aCInvalidSides => k_is)
    (case aCInvalidTable => k_is)
    (case aCInvalidText => k_is)
    (case aCInvalidValues => k_is)
    (case aCInvalidWalk => k_is)
    (case aCMismatchedShapes => k_is)
    (case aCNoRoom => k_is)
    (case aCNothingToUndo => k_is)
    (case aCSharedPlaces => k_is)
    (case aCShortLoop => k_is)
    (case aInvalidText___init => k_is)
    (case lInvalidText___init => k_is)
    (case dInvalidText___init => refine' CP.dfl1 (List.cons_ne_nil _ _) ?zzl ?zzr; (case zzl => k_is); (case zzr => rfl))
    (case cInvalidText___init => k_is)
    (case kInvalidText___init => k_is)
    (case aInvalidForm___init => k_is)
    (case lInvalidForm___init => k_is)
    (case dInvalidForm___init => refine' CP.dfl1 (List.cons_ne_nil _ _) ?zzl ?zzr; (case zzl => k_is); (case zzr => rfl))
    (case cInvalidForm___init => k_is)
    (case kInvalidForm___init => k_is)
    (case aInvalidLetter___init => k_is)
    (case lInvalidLetter___init => k_is)
    (case dInvalidLetter___init => refine' CP.dfl1 (List.cons_ne_nil _ _) ?zzl ?zzr; (case zzl => k_is); (case zzr => rfl))
    (case cInvalidLetter___init => k_is)
    (case kInvalidLetter___init => k_is)
    (case aInvalidNumber___init => k_is)
    (case lInvalidNumber___init => k_is)
    (case dInvalidNumber___init => refine' CP.dfl1 (List.cons_ne_nil _ _) ?zzl ?zzr; (case zzl => k_is); (case zzr => rfl))
    (case cInvalidNumber___init => k_is)
    (case kInvalidNumber___init => k_is)
    (case aInvalidLoops___init => k_is)
    (case lInvalidLoops___init => k_is)
    (case dInvalidLoops___init => refine' CP.dfl1 (List.cons_ne_nil _ _) ?zzl ?zzr; (case zzl => k_is); (case zzr => rfl))
    (case cInvalidLoops___init => k_is)
    (case kInvalidLoops___init => k_is)
    (case aShortLoop___init => k_is)
    (case lShortLoop___init => k_is)
    (case dShortLoop___init => refine' CP.dfl1 (List.cons_ne_nil _ _) ?zzl ?zzr; (case zzl => k_is); (case zzr => rfl))
    (case cShortLoop___init => k_is)
    (case kShortLoop___init => k_is)
    (case aInvalidShape___init => k_is)
    (case lInvalidShape___init => k_is)
    (case dInvalidShape___init => refine' CP.dfl1 (List.cons_ne_nil _ _) ?zzl ?zzr; (case zzl => k_is); (case zzr => rfl))
    (case cInvalidShape___init => k_is)
    (case kInvalidShape___init => k_is)
    (case aInvalidValues___init => k_is)
    (case lInvalidValues___init => k_is)
    (case dInvalidValues___init => refine' CP.dfl1 (List.cons_ne_nil _ _) ?zzl ?zzr; (case zzl => k_is); (case zzr => rfl))
    (case cInvalidValues___init => k_is)
    (case kInvalidValues___init => k_is)
    (case aInvalidCell___init => k_is)
    (case lInvalidCell___init => k_is)
    (case dInvalidCell___init => refine' CP.dfl1 (List.cons_ne_nil _ _) ?zzl ?zzr; (case zzl => k_is); (case zzr => rfl))
    (case cInvalidCell___init => k_is)
    (case kInvalidCell___init => k_is)
    (case aInvalidSides___init => k_is)
    (case lInvalidSides___init => k_is)
    (case dInvalidSides___init => refine' CP.dfl1 (List.cons_ne_nil _ _) ?zzl ?zzr; (case zzl => k_is); (case zzr => rfl))
    (case cInvalidSides___init => k_is)
    (case kInvalidSides___init => k_is)
    (case aInvalidTable___init => k_is)
    (case lInvalidTable___init => k_is)
    (case dInvalidTable___init => refine' CP.dfl1 (List.cons_ne_nil _ _) ?zzl ?zzr; (case zzl => k_is); (case zzr => rfl))
    (case cInvalidTable___init => k_is)
    (case kInvalidTable___init => k_is)
    (case aInvalidWalk___init => k_is)
    (case lInvalidWalk___init => k_is)
    (case dInvalidWalk___init => refine' CP.dfl1 (List.cons_ne_nil _ _) ?zzl ?zzr; (case zzl => k_is); (case zzr => rfl))
    (case cInvalidWalk___init => k_is)
    (case kInvalidWalk___init => k_is)
    (case aNoRoom___init => k_is)
    (case lNoRoom___init => k_is)
    (case dNoRoom___init => refine' CP.dfl1 (List.cons_ne_nil _ _) ?zzl ?zzr; (case zzl => k_is); (case zzr => rfl))
    (case cNoRoom___init => k_is)
    (case kNoRoom___init => k_is)
    (case alaw_classes => k_is)
    (case llaw_classes => k_is)
    (case claw_classes => k_is)
    (case klaw_classes => k_is)
    (case alaw_fields => k_is)
    (case llaw_fields => k_is)
    (case claw_fields => k_is)
    (case klaw_fields => k_is)
    (case alaw_placed => k_is)
    (case llaw_placed => k_is)
    (case claw_placed => k_is)
    (case klaw_placed => k_is)
    (case alaw_thing => k_is)
    (case llaw_thing => k_is)
    (case claw_thing => k_is)
    (case klaw_thing => k_is)
    (case alaw_made => k_is)
    (case llaw_made => k_is)
    (case claw_made => k_is)
    (case klaw_made => k_is)
    (case alaw_by_name => k_is)
    (case llaw_by_name => k_is)
    (case claw_by_name => k_is)
    (case klaw_by_name => k_is)
    (case alaw => k_is)
    (case llaw => k_is)
    (case claw => k_is)
    (case klaw => k_is)
    (case gaCellError => k_is)
    (case gtCellError => k_is)
    (case xsCellError => k_is)
    (case hdCellError => k_is)
    (case caCellError => k_is)
    (case cbCellError => k_is)
    (case ccCellError => k_is)
    (case cdCellError => k_is)
    (case exCellError => k_exc)
    (case kcCellError => k_is)
    (case rdCellError => k_is)
    (case rgCellError => k_is)
    (case viCellError => k_is)
    (case gaInvalidCell => k_is)
    (case gtInvalidCell => k_is)
    (case xsInvalidCell => k_is)
    (case hdInvalidCell => k_is)
    (case caInvalidCell => k_is)
    (case cbInvalidCell => k_is)
    (case ccInvalidCell => k_is)
    (case cdInvalidCell => k_is)
    (case lkInvalidCell => k_is)
    (case vbInvalidCell => (first | rfl | decide +kernel))
    (case saInvalidCell => k_is)
    (case tyInvalidCell => k_is)
    (case kcInvalidCell => k_is)
    (case fnInvalidCell => k_is)
    (case noInvalidCell => k_is)
    (case gaInvalidForm => k_is)
    (case gtInvalidForm => k_is)
    (case xsInvalidForm => k_is)
    (case hdInvalidForm => k_is)
    (case caInvalidForm => k_is)
    (case cbInvalidForm => k_is)
    (case ccInvalidForm => k_is)
    (case cdInvalidForm => k_is)
    (case lkInvalidForm => k_is)
    (case vbInvalidForm => (first | rfl | decide +kernel))
    (case saInvalidForm => k_is)
    (case tyInvalidForm => k_is)
    (case kcInvalidForm => k_is)
    (case fnInvalidForm => k_is)
    (case noInvalidForm => k_is)
    (case gaInvalidLetter => k_is)
    (case gtInvalidLetter => k_is)
    (case xsInvalidLetter => k_is)
    (case hdInvalidLetter => k_is)
    (case caInvalidLetter => k_is)
    (case cbInvalidLetter => k_is)
    (case ccInvalidLetter => k_is)
    (case cdInvalidLetter => k_is)
    (case lkInvalidLetter => k_is)
    (case vbInvalidLetter => (first | rfl | decide +kernel))
    (case saInvalidLetter => k_is)
    (case tyInvalidLetter => k_is)
    (case kcInvalidLetter => k_is)
    (case fnInvalidLetter => k_is)
    (case noInvalidLetter => k_is)
    (case gaInvalidLoops => k_is)
    (case gtInvalidLoops => k_is)
    (case xsInvalidLoops => k_is)
    (case hdInvalidLoops => k_is)
    (case caInvalidLoops => k_is)
    (case cbInvalidLoops => k_is)
    (case ccInvalidLoops => k_is)
    (case cdInvalidLoops => k_is)
    (case lkInvalidLoops => k_is)
    (case vbInvalidLoops => (first | rfl | decide +kernel))
    (case saInvalidLoops => k_is)
    (case tyInvalidLoops => k_is)
    (case kcInvalidLoops => k_is)
    (case fnInvalidLoops => k_is)
    (case noInvalidLoops => k_is)
    (case gaInvalidNumber => k_is)
    (case gtInvalidNumber => k_is)
    (case xsInvalidNumber => k_is)
    (case hdInvalidNumber => k_is)
    (case caInvalidNumber => k_is)
    (case cbInvalidNumber => k_is)
    (case ccInvalidNumber => k_is)
    (case cdInvalidNumber => k_is)
    (case lkInvalidNumber => k_is)
    (case vbInvalidNumber => (first | rfl | decide +kernel))
    (case saInvalidNumber => k_is)
    (case tyInvalidNumber => k_is)
    (case kcInvalidNumber => k_is)
    (case fnInvalidNumber => k_is)
    (case noInvalidNumber => k_is)
    (case gaInvalidShape => k_is)
    (case gtInvalidShape => k_is)
    (case xsInvalidShape => k_is)
    (case hdInvalidShape => k_is)
    (case caInvalidShape => k_is)
    (case cbInvalidShape => k_is)
    (case ccInvalidShape => k_is)
    (case cdInvalidShape => k_is)
    (case lkInvalidShape => k_is)
    (case vbInvalidShape => (first | rfl | decide +kernel))
    (case saInvalidShape => k_is)
    (case tyInvalidShape => k_is)
    (case kcInvalidShape => k_is)
    (case fnInvalidShape => k_is)
    (case noInvalidShape => k_is)
    (case gaInvalidSides => k_is)
    (case gtInvalidSides => k_is)
    (case xsInvalidSides => k_is)
    (case hdInvalidSides => k_is)
    (case caInvalidSides => k_is)
    (case cbInvalidSides => k_is)
    (case ccInvalidSides => k_is)
    (case cdInvalidSides => k_is)
    (case lkInvalidSides => k_is)
    (case vbInvalidSides => (first | rfl | decide +kernel))
    (case saInvalidSides => k_is)
    (case tyInvalidSides => k_is)
    (case kcInvalidSides => k_is)
    (case fnInvalidSides => k_is)
    (case noInvalidSides => k_is)
    (case gaInvalidTable => k_is)
    (case gtInvalidTable => k_is)
    (case xsInvalidTable => k_is)
    (case hdInvalidTable => k_is)
    (case caInvalidTable => k_is)
    (case cbInvalidTable => k_is)
    (case ccInvalidTable => k_is)
    (case cdInvalidTable => k_is)
    (case lkInvalidTable => k_is)
    (case vbInvalidTable => (first | rfl | decide +kernel))
    (case saInvalidTable => k_is)
    (case tyInvalidTable => k_is)
    (case kcInvalidTable => k_is)
    (case fnInvalidTable => k_is)
    (case noInvalidTable => k_is)
    (case gaInvalidText => k_is)
    (case gtInvalidText => k_is)
    (case xsInvalidText => k_is)
    (case hdInvalidText => k_is)
    (case caInvalidText => k_is)
    (case cbInvalidText => k_is)
    (case ccInvalidText => k_is)
    (case cdInvalidText => k_is)
    (case lkInvalidText => k_is)
    (case vbInvalidText => (first | rfl | decide +kernel))
    (case saInvalidText => k_is)
    (case tyInvalidText => k_is)
    (case kcInvalidText => k_is)
    (case fnInvalidText => k_is)
    (case noInvalidText => k_is)
    (case gaInvalidValues => k_is)
    (case gtInvalidValues => k_is)
    (case xsInvalidValues => k_is)
    (case hdInvalidValues => k_is)
    (case caInvalidValues => k_is)
    (case cbInvalidValues => k_is)
    (case ccInvalidValues => k_is)
    (case cdInvalidValues => k_is)
    (case lkInvalidValues => k_is)
    (case vbInvalidValues => (first | rfl | decide +kernel))
    (case saInvalidValues => k_is)
    (case tyInvalidValues => k_is)
    (case kcInvalidValues => k_is)
    (case fnInvalidValues => k_is)
    (case noInvalidValues => k_is)
    (case gaInvalidWalk => k_is)
    (case gtInvalidWalk => k_is)
    (case xsInvalidWalk => k_is)
    (case hdInvalidWalk => k_is)
    (case caInvalidWalk => k_is)
    (case cbInvalidWalk => k_is)
    (case ccInvalidWalk => k_is)
    (case cdInvalidWalk => k_is)
    (case lkInvalidWalk => k_is)
    (case vbInvalidWalk => (first | rfl | decide +kernel))
    (case saInvalidWalk => k_is)
    (case tyInvalidWalk => k_is)
    (case kcInvalidWalk => k_is)
    (case fnInvalidWalk => k_is)
    (case noInvalidWalk => k_is)
    (case gaMismatchedShapes => k_is)
    (case gtMismatchedShapes => k_is)
    (case xsMismatchedShapes => k_is)
    (case hdMismatchedShapes => k_is)
    (case caMismatchedShapes => k_is)
    (case cbMismatchedShapes => k_is)
    (case ccMismatchedShapes => k_is)
    (case cdMismatchedShapes => k_is)
    (case exMismatchedShapes => k_exc)
    (case kcMismatchedShapes => k_is)
    (case gaNoRoom => k_is)
    (case gtNoRoom => k_is)
    (case xsNoRoom => k_is)
    (case hdNoRoom => k_is)
    (case caNoRoom => k_is)
    (case cbNoRoom => k_is)
    (case ccNoRoom => k_is)
    (case cdNoRoom => k_is)
    (case lkNoRoom => k_is)
    (case vbNoRoom => (first | rfl | decide +kernel))
    (case saNoRoom => k_is)
    (case tyNoRoom => k_is)
    (case kcNoRoom => k_is)
    (case fnNoRoom => k_is)
    (case noNoRoom => k_is)
    (case gaNothingToUndo => k_is)
    (case gtNothingToUndo => k_is)
    (case xsNothingToUndo => k_is)
    (case hdNothingToUndo => k_is)
    (case caNothingToUndo => k_is)
    (case cbNothingToUndo => k_is)
    (case ccNothingToUndo => k_is)
    (case cdNothingToUndo => k_is)
    (case exNothingToUndo => k_exc)
    (case kcNothingToUndo => k_is)
    (case gaSharedPlaces => k_is)
    (case gtSharedPlaces => k_is)
    (case xsSharedPlaces => k_is)
    (case hdSharedPlaces => k_is)
    (case caSharedPlaces => k_is)
    (case cbSharedPlaces => k_is)
    (case ccSharedPlaces => k_is)
    (case cdSharedPlaces => k_is)
    (case exSharedPlaces => k_exc)
    (case kcSharedPlaces => k_is)
    (case gaShortLoop => k_is)
    (case gtShortLoop => k_is)
    (case xsShortLoop => k_is)
    (case hdShortLoop => k_is)
    (case caShortLoop => k_is)
    (case cbShortLoop => k_is)
    (case ccShortLoop => k_is)
    (case cdShortLoop => k_is)
    (case lkShortLoop => k_is)
    (case vbShortLoop => (first | rfl | decide +kernel))
    (case saShortLoop => k_is)
    (case tyShortLoop => k_is)
    (case kcShortLoop => k_is)
    (case fnShortLoop => k_is)
    (case noShortLoop => k_is)
    (case ktTab => kernel_rfl)
    (case nValueError => k_is)
    (case nenumerate => k_is)
    (case nint => k_is)
    (case nisinstance => k_is)
    (case nlen => k_is)
    (case nlist => k_is)
    (case nmax => k_is)
    (case nrange => k_is)
    (case nrepr => k_is)
    (case nsum => k_is)
