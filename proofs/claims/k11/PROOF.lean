import PyProof.Rows.All
import Wide.All
import OpenK.AllK
import Wide.FinOn
import PyProof.EqAt
import PyProof.EqKinds
import PyProof.P3Eq
import PyProof.TupleCall
import HandS.ForMost
import HandS.Style
import HandS.TupMul
import HandS.Conv
import HandS.EndBits
import HandS.IsInst
import HandS.Walk
import HandS.Wide
import HandS.Flow
import HandS.CallLocal
import HandS.Nested
import HandS.Lambda
import HandS.EndTab
import KE.GoesEnumKw
import KE.GoesNew
import KE.KExcIs
import HandS.ExcInit
import HandS.ExcField
import HandS.ExcOwn
import HandS.ExcIs
import HandS.WordsExc
import PyProof.SeqIndex
import KE.KDictPairs
import HandS.ListItems
import HandS.MakeKw
import HandS.MakeKwOnly
import HandS.More
import HandS.TupAny
import PySem.Challenge.RW_thingwires_k11_nodes_and_cases
set_option Elab.async false
set_option linter.all false
set_option maxRecDepth 100000
set_option maxHeartbeats 4000000
/-! Kb: joined rules (one rule a construct, whatever the kind of value), what a def of the text promises (Cal), heaps that keep all but some places -/
namespace Kb
open PySem PySem.Spec PyProof.Rows L2

/-! ### joined operators: each reading is opened by its own lemmas alone -/
/-- list + list, of any lists that are read -/
def rCatS (K : PySem.W.Frag) : R2 := fun x y H Q => ∃ l b xs zs, x = .ref l ∧ y = .ref b ∧ SqL K H l xs ∧ SqL K H b zs ∧ xs.length + zs.length ≤ sizeLine ∧ ∀ p, H p = none → Q (.ref p) (upd H p (.lst (xs ++ zs)))
theorem op_catS {X : Cx} : OpR X (binaryOp .Add) (rCatS X.K) := by
  intro pins s σ H x y v u Q I rx ry h
  obtain ⟨l, b, xs, zs, rfl, rfl, hH, hB, hz, q⟩ := h
  cases rx
  cases ry
  obtain ⟨its, r, ⟨⟨cls, dd, data, sl⟩, n, ho, hc, hd, hs⟩, hl⟩ := I.list hH
  obtain ⟨its2, r2, ⟨⟨cls2, dd2, data2, sl2⟩, n2, ho2, hc2, hd2, hs2⟩, hl2⟩ := I.list hB
  simp only at hc hs hc2 hs2
  subst hc hs hc2 hs2
  have e1 := r.length
  have e2 := r2.length
  have ea : its.toArray ++ its2.toArray = (its ++ its2).toArray := by simp
  refine concat_meets ⟨_, ho, rfl⟩ ⟨_, ho2, rfl⟩ noFill_list_add seq_list_add PySem.F.slot_list_add PySem.F.entry_list_add (PySem.F.args_list_add_2 _ _) (list_addW l b its.toArray its2.toArray n n2 dd dd2 sl sl2 (by simp only [List.size_toArray]; omega)) ⟨ho, ho2, ?_⟩
  rw [ea]
  exact ⟨.ref _, _, I.lnew (t' := s.toks) (r.append r2) (by rw [List.length_append]; omega), rfl, q _ I.fresh⟩
@[irreducible] def rAddU (K : PySem.W.Frag) : R2 := fun x y H Q => rI0 (fun i j => .int (i + j)) x y H Q ∨ (∃ i j, x = .str i ∧ y = .str j ∧ i.length + j.length ≤ sizeLine ∧ Q (.str (i ++ j)) H) ∨ rCatS K x y H Q ∨ rCatT K x y H Q
@[irreducible] def rSubU : R2 := rI0 fun i j => .int (i - j)
@[irreducible] def rMulU (K : PySem.W.Frag) : R2 := fun x y H Q => rI CMul (fun i j => .int (i * j)) x y H Q ∨ rRep x y H Q ∨ rRepT K x y H Q
@[irreducible] def rDivU : R2 := rI CDiv fun i j => .int (i / j)
@[irreducible] def rDivW : R2 := rI CDivW fun i j => .int (i / j)
@[irreducible] def rModU : R2 := rI (fun _ j => 0 < j) fun i j => .int (i % j)
@[irreducible] def rPowU : R2 := rI CPow fun i j => .int (i ^ j.toNat)
@[irreducible] def rEqU (K : PySem.W.Frag) : R2 := fun x y H Q => rEq x y H Q ∨ rEqD K x y H Q
@[irreducible] def rNeU (K : PySem.W.Frag) : R2 := fun x y H Q => rNe x y H Q ∨ rNeD K x y H Q
@[irreducible] def rLtU : R2 := fun x y H Q => rI0 (fun i j => .bl (decide (i < j))) x y H Q ∨ ∃ i j, x = .str i ∧ y = .str j ∧ Q (.bl (decide (i.cps.toList < j.cps.toList))) H
@[irreducible] def rLeU : R2 := rI0 fun i j => .bl (decide (i ≤ j))
@[irreducible] def rGtU : R2 := fun x y H Q => rI0 (fun i j => .bl (decide (j < i))) x y H Q ∨ ∃ i j, x = .str i ∧ y = .str j ∧ Q (.bl (decide (j.cps.toList < i.cps.toList))) H
@[irreducible] def rGeU : R2 := rI0 fun i j => .bl (decide (j ≤ i))
@[irreducible] def rIsNU : R2 := fun x y H Q => y = .non ∧ Q (.bl (decide (x = .non))) H
@[irreducible] def rNotNU : R2 := fun x y H Q => y = .non ∧ Q (.bl (!decide (x = .non))) H
@[irreducible] def rInU (K : PySem.W.Frag) : R2 := fun x y H Q => (∃ (c : Nat) (z : Str), x = .str ⟨#[c]⟩ ∧ y = .str z ∧ Q (.bl (decide (c ∈ z.cps.toList))) H) ∨ rIn K false x y H Q
@[irreducible] def rNotInU (K : PySem.W.Frag) : R2 := fun x y H Q => (∃ (c : Nat) (z : Str), x = .str ⟨#[c]⟩ ∧ y = .str z ∧ Q (.bl (!decide (c ∈ z.cps.toList))) H) ∨ rIn K true x y H Q
@[irreducible] def rIxU (K : PySem.W.Frag) : R2 := rIx K
@[irreducible] def rSetU : V → V → V → Hp → (Hp → Prop) → Prop := rSetL
@[irreducible] def rIAddU : R2 := fun x y H Q => rI0 (fun i j => .int (i + j)) x y H Q ∨ (∃ i j, x = .str i ∧ y = .str j ∧ i.length + j.length ≤ sizeLine ∧ Q (.str (i ++ j)) H) ∨ rExt2 x y H Q
@[irreducible] def rISubU : R2 := rI0 fun i j => .int (i - j)
@[irreducible] def rIModU : R2 := rI (fun _ j => 0 < j) fun i j => .int (i % j)
@[irreducible] def rNegU : V → Hp → VK → Prop := rU fun i => .int (-i)
section
variable {X : Cx}
theorem u_add : OpR X (binaryOp .Add) (rAddU X.K) := by unfold rAddU; exact op_add.or (op_add_str.or (op_catS.or op_catT))
theorem u_sub : OpR X (binaryOp .Sub) rSubU := by unfold rSubU; exact op_sub
theorem u_mul : OpR X (binaryOp .Mult) (rMulU X.K) := by unfold rMulU; exact op_mul.or (op_rep.or op_repT)
theorem u_div : OpR X (binaryOp .FloorDiv) rDivU := by unfold rDivU; exact op_fdiv
theorem u_mod : OpR X (binaryOp .Mod) rModU := by unfold rModU; exact op_mod
theorem u_pow : OpR X (binaryOp .Pow) rPowU := by unfold rPowU; exact op_pow
theorem u_eq (hu : X.A.units + 64 < cLine) : OpR X (compareOp .Eq) (rEqU X.K) := by unfold rEqU; exact op_eq.or (op_eqD hu)
theorem u_ne (hu : X.A.units + 64 < cLine) : OpR X (compareOp .NotEq) (rNeU X.K) := by unfold rNeU; exact op_ne.or (op_neD hu)
theorem u_lt : OpR X (compareOp .Lt) rLtU := by unfold rLtU; exact op_lt.or op_lt_str
theorem u_le : OpR X (compareOp .LtE) rLeU := by unfold rLeU; exact op_le
theorem u_gt : OpR X (compareOp .Gt) rGtU := by unfold rGtU; exact op_gt.or op_gt_str
theorem u_ge : OpR X (compareOp .GtE) rGeU := by unfold rGeU; exact op_ge
theorem u_isN : OpR X (compareOp .Is) rIsNU := by unfold rIsNU; exact op_isN
theorem u_notN : OpR X (compareOp .IsNot) rNotNU := by unfold rNotNU; exact op_notN
theorem u_in : OpR X (compareOp .In) (rInU X.K) := by unfold rInU; exact op_in_sign.or op_in_seq
theorem u_notIn : OpR X (compareOp .NotIn) (rNotInU X.K) := by unfold rNotInU; exact op_notIn_sign.or op_notIn_seq
theorem u_ix : IxR X (rIxU X.K) := by unfold rIxU; exact ix_seq
theorem u_set : PSet X rSetU := by unfold rSetU; exact set_list
theorem u_iadd : PIp X .Add rIAddU := by unfold rIAddU; exact iop_add.or (iop_add_str.or iop_ext)
theorem u_isub : PIp X .Sub rISubU := by unfold rISubU; exact iop_sub
theorem u_imod : PIp X .Mod rIModU := by unfold rIModU; exact iop_mod
theorem u_neg : UnR X (unaryOp .USub) rNegU := by unfold rNegU; exact un_neg
end
theorem sz_of' {n : Nat} (h : n ≤ 16777216) : n ≤ sizeLine := Nat.le_trans h (by decide)
theorem szlt_of {n : Nat} (h : n < 16777216) : n < sizeLine := Nat.lt_of_lt_of_le h (by decide)
theorem cmul_l {i j : Int} (a : -18446744073709551616 < i) (b : i < 18446744073709551616) : CMul i j := .inl ⟨a, b⟩
theorem cmul_r {i j : Int} (a : -18446744073709551616 < j) (b : j < 18446744073709551616) : CMul i j := .inr ⟨a, b⟩
section
variable {K : PySem.W.Frag} {H : Hp} {Q : VK} {i j : Int} {x y : V} {a b : Addr} {xs ys : List V}
theorem add_go (q : Q (.int (i + j)) H) : rAddU K (.int i) (.int j) H Q := by unfold rAddU; exact .inl ⟨_, _, rfl, rfl, q⟩
theorem addS_go {u v : Str} (h : u.length + v.length ≤ 16777216) (q : Q (.str (u ++ v)) H) : rAddU K (.str u) (.str v) H Q := by unfold rAddU; exact .inr (.inl ⟨_, _, rfl, rfl, sz_of' h, q⟩)
theorem addLS_go (ha : SqL K H a xs) (hb : SqL K H b ys) (h : xs.length + ys.length ≤ 16777216) (q : ∀ p, H p = none → Q (.ref p) (upd H p (.lst (xs ++ ys)))) : rAddU K (.ref a) (.ref b) H Q := by
  unfold rAddU; exact .inr (.inr (.inl ⟨_, _, _, _, rfl, rfl, ha, hb, sz_of' h, q⟩))
theorem addL_go (ha : H a = some (.lst xs)) (hb : H b = some (.lst ys)) (h : xs.length + ys.length ≤ 16777216) (q : ∀ p, H p = none → Q (.ref p) (upd H p (.lst (xs ++ ys)))) : rAddU K (.ref a) (.ref b) H Q := addLS_go (SqL.of ha) (SqL.of hb) h q
theorem addT_go (ha : SqT K H a xs) (hb : SqT K H b ys) (h0 : xs ≠ []) (h : xs.length + ys.length ≤ 16777216) (q0 : ys = [] → Q (.ref a) H) (q : ys ≠ [] → ∀ p, H p = none → Q (.ref p) (upd H p (.tup (xs ++ ys)))) : rAddU K (.ref a) (.ref b) H Q := by
  unfold rAddU; exact .inr (.inr (.inr ⟨_, _, _, _, rfl, rfl, ha, hb, h0, sz_of' h, q0, q⟩))
theorem sub_go (q : Q (.int (i - j)) H) : rSubU (.int i) (.int j) H Q := by unfold rSubU; exact ⟨_, _, rfl, rfl, q⟩
theorem mul_goL (a : -18446744073709551616 < i) (b : i < 18446744073709551616) (q : Q (.int (i * j)) H) : rMulU K (.int i) (.int j) H Q := by unfold rMulU; exact .inl ⟨_, _, rfl, rfl, cmul_l a b, q⟩
theorem mul_goR (a : -18446744073709551616 < j) (b : j < 18446744073709551616) (q : Q (.int (i * j)) H) : rMulU K (.int i) (.int j) H Q := by unfold rMulU; exact .inl ⟨_, _, rfl, rfl, cmul_r a b, q⟩
theorem rep_go (ha : H a = some (.lst xs)) (h0 : -9223372036854775808 ≤ i) (h1 : i < 9223372036854775808) (h : xs.length * i.toNat ≤ 16777216) (q : ∀ p, H p = none → Q (.ref p) (upd H p (.lst (List.replicate i.toNat xs).flatten))) : rMulU K (.ref a) (.int i) H Q := by
  unfold rMulU; exact .inr (.inl ⟨_, _, _, rfl, rfl, ha, h0, h1, sz_of' h, q⟩)
theorem div_go (a : 0 < j) (b : j < 1073741824) (q : Q (.int (i / j)) H) : rDivU (.int i) (.int j) H Q := by unfold rDivU; exact ⟨_, _, rfl, rfl, ⟨a, b⟩, q⟩
theorem divW_go (h : CDivW i j) (q : Q (.int (i / j)) H) : rDivW (.int i) (.int j) H Q := by unfold rDivW; exact ⟨_, _, rfl, rfl, h, q⟩
theorem mod_go (a : 0 < j) (q : Q (.int (i % j)) H) : rModU (.int i) (.int j) H Q := by unfold rModU; exact ⟨_, _, rfl, rfl, a, q⟩
theorem pow_go (a : 0 ≤ j) (b : j ≤ 1000000) (c : i.natAbs < 2 ^ 64) (q : Q (.int (i ^ j.toNat)) H) : rPowU (.int i) (.int j) H Q := by unfold rPowU; exact ⟨_, _, rfl, rfl, ⟨a, b, c⟩, q⟩
theorem neg_go (q : Q (.int (-i)) H) : rNegU (.int i) H Q := by unfold rNegU; exact ⟨_, rfl, q⟩
theorem dInt : decide (V.int i = V.int j) = decide (i = j) := by simp
theorem dStr {u v : Str} : decide (V.str u = V.str v) = decide (u = v) := by simp
theorem dBl {u v : Bool} : decide (V.bl u = V.bl v) = decide (u = v) := by simp
theorem eq_go (q : Q (.bl (decide (i = j))) H) : rEqU K (.int i) (.int j) H Q := by unfold rEqU; exact .inl ⟨rfl, by rw [dInt]; exact q⟩
theorem eqS_go {u v : Str} (q : Q (.bl (decide (u = v))) H) : rEqU K (.str u) (.str v) H Q := by unfold rEqU; exact .inl ⟨rfl, by rw [dStr]; exact q⟩
theorem eqB_go {u v : Bool} (q : Q (.bl (decide (u = v))) H) : rEqU K (.bl u) (.bl v) H Q := by unfold rEqU; exact .inl ⟨rfl, by rw [dBl]; exact q⟩
theorem eqN_go (q : Q (.bl true) H) : rEqU K .non .non H Q := by unfold rEqU; exact .inl ⟨rfl, q⟩
theorem eqD_go {d e : PyData} (hx : Dp K H x d) (hy : Dp K H y e) (sx : SeqAt.shaped d = true) (sy : SeqAt.shaped e = true) (q : Q (.bl (PyData.eqv d e)) H) : rEqU K x y H Q := by unfold rEqU; exact .inr ⟨d, e, hx, hy, sx, sy, q⟩
theorem ne_go (q : Q (.bl (!decide (i = j))) H) : rNeU K (.int i) (.int j) H Q := by unfold rNeU; exact .inl ⟨rfl, by rw [dInt]; exact q⟩
theorem neS_go {u v : Str} (q : Q (.bl (!decide (u = v))) H) : rNeU K (.str u) (.str v) H Q := by unfold rNeU; exact .inl ⟨rfl, by rw [dStr]; exact q⟩
theorem neB_go {u v : Bool} (q : Q (.bl (!decide (u = v))) H) : rNeU K (.bl u) (.bl v) H Q := by unfold rNeU; exact .inl ⟨rfl, by rw [dBl]; exact q⟩
theorem neD_go {d e : PyData} (hx : Dp K H x d) (hy : Dp K H y e) (sx : SeqAt.shaped d = true) (sy : SeqAt.shaped e = true) (q : Q (.bl (!PyData.eqv d e)) H) : rNeU K x y H Q := by unfold rNeU; exact .inr ⟨d, e, hx, hy, sx, sy, q⟩
theorem lt_go (q : Q (.bl (decide (i < j))) H) : rLtU (.int i) (.int j) H Q := by unfold rLtU; exact .inl ⟨_, _, rfl, rfl, q⟩
theorem ltS_go {u v : Str} (q : Q (.bl (decide (u.cps.toList < v.cps.toList))) H) : rLtU (.str u) (.str v) H Q := by unfold rLtU; exact .inr ⟨_, _, rfl, rfl, q⟩
theorem le_go (q : Q (.bl (decide (i ≤ j))) H) : rLeU (.int i) (.int j) H Q := by unfold rLeU; exact ⟨_, _, rfl, rfl, q⟩
theorem gt_go (q : Q (.bl (decide (j < i))) H) : rGtU (.int i) (.int j) H Q := by unfold rGtU; exact .inl ⟨_, _, rfl, rfl, q⟩
theorem gtS_go {u v : Str} (q : Q (.bl (decide (v.cps.toList < u.cps.toList))) H) : rGtU (.str u) (.str v) H Q := by unfold rGtU; exact .inr ⟨_, _, rfl, rfl, q⟩
theorem ge_go (q : Q (.bl (decide (j ≤ i))) H) : rGeU (.int i) (.int j) H Q := by unfold rGeU; exact ⟨_, _, rfl, rfl, q⟩
theorem isN_go (q : Q (.bl (decide (x = .non))) H) : rIsNU x .non H Q := by unfold rIsNU; exact ⟨rfl, q⟩
theorem notN_go (q : Q (.bl (!decide (x = .non))) H) : rNotNU x .non H Q := by unfold rNotNU; exact ⟨rfl, q⟩
theorem inC_go {c : Nat} {z : Str} (q : Q (.bl (decide (c ∈ z.cps.toList))) H) : rInU K (.str ⟨#[c]⟩) (.str z) H Q := by unfold rInU; exact .inl ⟨_, _, rfl, rfl, q⟩
theorem inL_go (h : SqL K H a xs) (fx : flatV x = true) (fs : xs.all flatV = true) (q : Q (.bl (inV x xs)) H) : rInU K x (.ref a) H Q := by unfold rInU; exact .inr ⟨_, _, rfl, .inl h, fx, fs, q⟩
theorem inT_go (h : SqT K H a xs) (fx : flatV x = true) (fs : xs.all flatV = true) (q : Q (.bl (inV x xs)) H) : rInU K x (.ref a) H Q := by unfold rInU; exact .inr ⟨_, _, rfl, .inr h, fx, fs, q⟩
theorem notInC_go {c : Nat} {z : Str} (q : Q (.bl (!decide (c ∈ z.cps.toList))) H) : rNotInU K (.str ⟨#[c]⟩) (.str z) H Q := by unfold rNotInU; exact .inl ⟨_, _, rfl, rfl, q⟩
theorem notInL_go (h : SqL K H a xs) (fx : flatV x = true) (fs : xs.all flatV = true) (q : Q (.bl (!inV x xs)) H) : rNotInU K x (.ref a) H Q := by unfold rNotInU; exact .inr ⟨_, _, rfl, .inl h, fx, fs, q⟩
theorem ixL_go (h : SqL K H a xs) (e : atI xs i = some x) (q : Q x H) : rIxU K (.ref a) (.int i) H Q := by unfold rIxU; exact .inl ⟨_, _, _, _, rfl, rfl, h, e, q⟩
theorem ixT_go (h : SqT K H a xs) (e : atI xs i = some x) (q : Q x H) : rIxU K (.ref a) (.int i) H Q := by unfold rIxU; exact .inr (.inl ⟨_, _, _, _, rfl, rfl, h, e, q⟩)
theorem ixS_go {z : Str} {c : Nat} (h : z.length ≤ 16777216) (e : atI z.cps.toList i = some c) (q : Q (.str ⟨#[c]⟩) H) : rIxU K (.str z) (.int i) H Q := by unfold rIxU; exact .inr (.inr ⟨_, _, _, rfl, rfl, sz_of' h, e, q⟩)
theorem set_go {k : Nat} {Q : Hp → Prop} (h : H a = some (.lst xs)) (e : ixN xs.length i = some k) (q : Q (upd H a (.lst (xs.set k x)))) : rSetU (.ref a) (.int i) x H Q := by unfold rSetU; exact ⟨_, _, _, _, rfl, rfl, h, e, q⟩
theorem iadd_go (q : Q (.int (i + j)) H) : rIAddU (.int i) (.int j) H Q := by unfold rIAddU; exact .inl ⟨_, _, rfl, rfl, q⟩
theorem iaddS_go {u v : Str} (h : u.length + v.length ≤ 16777216) (q : Q (.str (u ++ v)) H) : rIAddU (.str u) (.str v) H Q := by unfold rIAddU; exact .inr (.inl ⟨_, _, rfl, rfl, sz_of' h, q⟩)
theorem iaddL_go (ha : H a = some (.lst xs)) (hb : H b = some (.lst ys)) (h : xs.length + ys.length ≤ 16777216) (q : Q (.ref a) (upd H a (.lst (xs ++ ys)))) : rIAddU (.ref a) (.ref b) H Q := by
  unfold rIAddU; exact .inr (.inr ⟨_, _, _, _, rfl, rfl, ha, hb, sz_of' h, q⟩)
theorem isub_go (q : Q (.int (i - j)) H) : rISubU (.int i) (.int j) H Q := by unfold rISubU; exact ⟨_, _, rfl, rfl, q⟩
theorem imod_go (a : 0 < j) (q : Q (.int (i % j)) H) : rIModU (.int i) (.int j) H Q := by unfold rIModU; exact ⟨_, _, rfl, rfl, a, q⟩
end

/-! ### names of the module -/
section
variable {X : Cx} {x : Str} {pos : Pos}
theorem pe_gint {i : Int} (hg : Gl X x) (hm : ∃ t, X.mg x = some (.int i t)) (hd : (x == ("__debug__" : Str)) = false := by decide) : PE X (.Name x pos) (tC (.int i)) := by
  obtain ⟨t, hm⟩ := hm
  exact pe_glob hg hm ⟨t, rfl⟩ hd
theorem pe_gstr {i : Str} (hg : Gl X x) (hm : ∃ t, X.mg x = some (.str i t)) (hd : (x == ("__debug__" : Str)) = false := by decide) : PE X (.Name x pos) (tC (.str i)) := by
  obtain ⟨t, hm⟩ := hm
  exact pe_glob hg hm ⟨t, rfl⟩ hd
end

/-! ### defs of the text -/
def Def (K : PySem.W.Frag) (mg : Str → Option Value) (st : Stmt) (x : Str) : Prop := ∃ f fd, mg x = some (.ref f) ∧ Fun K x x st f fd
def FdAt (K : PySem.W.Frag) (f : Addr) (fd : FuncData) : Prop := ∃ oc od osl, K.lookup f = some ⟨oc, od, .func fd, osl⟩
theorem FdAt.eq {K : PySem.W.Frag} {f : Addr} {fd fd' : FuncData} (a : FdAt K f fd) (b : FdAt K f fd') : fd = fd' := by
  obtain ⟨_, _, _, a⟩ := a
  obtain ⟨_, _, _, b⟩ := b
  rw [a] at b
  cases b
  rfl
theorem Fun.at_ {K : PySem.W.Frag} {x qual : Str} {st : Stmt} {f : Addr} {fd : FuncData} (F : Fun K x qual st f fd) : FdAt K f fd := by
  obtain ⟨oc, od, kV, doc, pm, an, cdv, ct, osl, rfl, lk, hcd⟩ := F.ex
  exact ⟨oc, od, osl, lk⟩
/-- the def x of the module keeps the promise sp -/
structure Cal (P : Program) (w : World) (K : PySem.W.Frag) (mg : Str → Option Value) (base : Heap) (CX : CXT) (k : Nat) (x : Str) (ps : List Str) (sp : Sp) : Prop where
  ex : ∃ f fd, mg x = some (.ref f) ∧ FnOk P w K mg base CX k f fd ps sp ∧ PySem.W.keepIn K (.ref f) = true ∧ (∀ us : List Value, us.length = ps.length → bindArgs fd ⟨us, []⟩ = pure (ps.zip us)) ∧ FdAt K f fd
section
variable {P : Program} {w : World} {K : PySem.W.Frag} {mg : Str → Option Value} {base : Heap}
theorem Cal.of {x : Str} {st : Stmt} {N ps : List Str} {k : Nat} {sp : Sp} (D : Def K mg st x) (S : FnScope N ps (defScope st))
    (hb : ∀ (kV doc pm : Value) (an : Option Addr) (cdv ct : Value) (us : List Value), us.length = ps.length → bindArgs (PySem.W.fnOf x x (defArgs st) (defBody st) (defScope st) .none kV doc pm an cdv ct) ⟨us, []⟩ = pure (ps.zip us))
    (len : ∀ vs H Q E, sp vs H Q E → vs.length = ps.length)
    (hbody : ∀ (f : Addr) (cdv : Value) (A : Around) (outer : List Env) (s : Shared) (H : Hp) (vs : List V) (Q : VK) (E : XK), Room k (A.deeper (envOfC x (defScope st) s.heap.objs.size f cdv)) → sp vs H Q E →
      ∃ t, PSs (cxOf CX0 P w K mg base N x (defScope st) f cdv A outer s H E).nox (defBody st) t ∧ t { nx := fun _ H' => Q .non H', rt := Q } (start N vs) H) : Cal P w K mg base CX0 (k + 1) x ps sp := by
  obtain ⟨f, fd, hm, F⟩ := D
  refine ⟨f, fd, hm, F.ok S len (hbody f), F.kp, ?_, Fun.at_ F⟩
  obtain ⟨oc, od, kV, doc, pm, an, cdv, ct, osl, rfl, lk, hcd⟩ := F.ex
  exact hb kV doc pm an cdv ct
theorem Cal.bound {CX : CXT} {k : Nat} {x : Str} {ps : List Str} {sp : Sp} (C : Cal P w K mg base CX k x ps sp) : ∃ f fd, mg x = some (.ref f) ∧ FnOk P w K mg base CX k f fd ps sp ∧ PySem.W.keepIn K (.ref f) = true ∧ Binds K fd ps [] := by
  obtain ⟨f, fd, a, b, c, d, _⟩ := C.ex
  exact ⟨f, fd, a, b, c, .all d⟩
theorem Cal.end_ {x y : Str} {st : Stmt} {k : Nat} {sp : Sp} {fa : Addr} (D : Def K mg st x) (C : ∀ base : Heap, Cal P w K mg base CX0 k x [y] sp) (h : mg x = some (.ref fa)) :
    ∃ fd : FuncData, (∀ (s : Shared) (v : Value), BindsTo s fd ⟨[v], []⟩ [(y, v)]) ∧ ∀ base : Heap, K.In base → base.Ns mainGlobals mg → FnOk P w K mg base CX0 k fa fd [y] sp := by
  obtain ⟨f, fd, hm, F⟩ := D
  have e := h.symm.trans hm
  cases e
  have key : ∀ base : Heap, FnOk P w K mg base CX0 k fa fd [y] sp ∧ ∀ us : List Value, us.length = [y].length → bindArgs fd ⟨us, []⟩ = pure ([y].zip us) := fun base => by
    obtain ⟨f', fd', hm', G, _, hb, hA⟩ := (C base).ex
    have e := hm'.symm.trans hm
    cases e
    have e2 := hA.eq (Fun.at_ F)
    subst e2
    exact ⟨G, hb⟩
  exact ⟨fd, fun s v => .of_eq ((key default).2 [v] rfl), fun base _ _ => (key base).1⟩
end
section
variable {X : Cx} {CX : CXT} {k : Nat} {x : Str} {ps : List Str} {sp : Sp} {E : XK} {e : Expr} {es : List Expr} {t : TA} {p pos : Pos}
theorem pe_callC (C : Cal X.prog X.w X.K X.mg X.base CX k x ps sp) (hr : Room k X.A) (hg : Gl X x) (hx : Passes CX X E)
    (ha : PA X (e :: es) t) (hdb : (x == ("__debug__" : Str)) = false := by decide) (he : starEach (e :: es) X.env = (false, eval e X.env) :: starEach es X.env := by rfl) (hpl : (backTo pos (starEach es X.env)).any (·.1) = false := by rfl) :
    PE X (.Call (.Name x p) (e :: es) [] pos) (tCall sp [] E t) := by
  obtain ⟨f, fd, hm, F, hk, hb⟩ := C.bound
  exact pe_call F hr hg hm hk hb .nil hx ha hdb he hpl
theorem pe_callC0 (C : Cal X.prog X.w X.K X.mg X.base CX k x ps sp) (hr : Room k X.A) (hg : Gl X x) (hx : Passes CX X E)
    (hdb : (x == ("__debug__" : Str)) = false := by decide) : PE X (.Call (.Name x p) [] [] pos) (tCall sp [] E tNil) := by
  obtain ⟨f, fd, hm, F, hk, hb⟩ := C.bound
  exact pe_call0 F hr hg hm hk hb .nil hx hdb
/-- f(k = v): all by names -/
theorem pe_callK0 {f : Addr} {fd : FuncData} {ks : List Str} {g : List Value → List Value → List Value} {gV : List V → List V → List V} {kws : List Keyword} {tk : TA} (F : FnOk X.prog X.w X.K X.mg X.base CX k f fd ps sp) (hr : Room k X.A) (hg : Gl X x) (hm : X.mg x = some (.ref f)) (hk : PySem.W.keepIn X.K (.ref f) = true) (hb : KBinds X.K fd ps ks g gV) (hx : Passes CX X E)
    (hkw : PK X kws tk) (hall : (backToKw pos (keywordEach kws X.env)).all (·.1.isSome) = true := by rfl) (hks : (backToKw pos (keywordEach kws X.env)).filterMap (·.1) = ks := by rfl)
    (hdb : (x == ("__debug__" : Str)) = false := by decide)
    (hpl : ((backTo pos (starEach [] X.env)).any (·.1) || (backToKw pos (keywordEach kws X.env)).any (·.1.isNone)) = false := by rfl) :
    PE X (.Call (.Name x p) [] kws pos) (tCallK sp gV E tNil tk) := by
  refine ⟨fun pins s σ H Q I h => ?_⟩
  refine wpAny_Call_Name_kw (ld_glob I hg hm ?_ hdb)
  refine PySem.W.callWith_KW0 (h₀ := X.base) I.ok.mod.kin hk hall ?_ hpl
  have h : tk σ H fun zs H2 => sp (gV [] zs) H2 Q E := h
  refine thn (hkw.run pos pins s σ H _ I h) fun ws s2 ⟨zs, H2, I2, rz, q2⟩ => ⟨I2.kIn, ?_⟩
  rw [hks]
  exact run_fnk (us := []) (vs := []) F hr hb hx I2 .nil rz q2
end

/-! ### joined calls of built-ins -/
@[irreducible] def rLenU (K : PySem.W.Frag) : List V → Hp → VK → Prop := fun xs H Q => (∃ x n, xs = [x] ∧ LenV K x H n ∧ Q (.int n) H) ∨ ∃ a kvs, xs = [V.ref a] ∧ H a = some (.dK kvs) ∧ Q (.int kvs.length) H
@[irreducible] def rIsiU (K : PySem.W.Frag) : List V → Hp → VK → Prop := fun xs H Q => rIsi K xs H Q ∨ rIsiT K xs H Q
@[irreducible] def rIntU : List V → Hp → VK → Prop := fun xs H Q => (∃ i, xs = [.int i] ∧ Q (.int i) H) ∨ ∃ k, xs = [.bl k] ∧ Q (.int (if k then 1 else 0)) H
@[irreducible] def rBoolU : List V → Hp → VK → Prop := fun xs H Q => (∃ i, xs = [.int i] ∧ Q (.bl (i != 0)) H) ∨ ∃ k, xs = [.bl k] ∧ Q (.bl k) H
@[irreducible] def rAbsU : List V → Hp → VK → Prop := fun xs H Q => ∃ i, xs = [.int i] ∧ Q (.int (if i < 0 then -i else i)) H
@[irreducible] def rOrdU : List V → Hp → VK → Prop := fun xs H Q => ∃ x, xs = [.str x] ∧ x.length = 1 ∧ Q (.int (x.cps.getD 0 0 : Nat)) H
@[irreducible] def rListU (K : PySem.W.Frag) : List V → Hp → VK → Prop := fun xs H Q => ∃ p ys, xs = [.ref p] ∧ (SqL K H p ys ∨ SqT K H p ys) ∧ ∀ l, H l = none → Q (.ref l) (upd H l (.lst ys))
@[irreducible] def rTupleU (K : PySem.W.Frag) : List V → Hp → VK → Prop := fun xs H Q => ∃ p ys, xs = [.ref p] ∧ ((SqL K H p ys ∧ ∀ l, H l = none → Q (.ref l) (upd H l (.tup ys))) ∨ (SqT K H p ys ∧ Q (.ref p) H))
@[irreducible] def rAllU (K : PySem.W.Frag) : List V → Hp → VK → Prop := rAll K
@[irreducible] def rAnyU (K : PySem.W.Frag) : List V → Hp → VK → Prop := rAny K
@[irreducible] def rSumU (K : PySem.W.Frag) : List V → Hp → VK → Prop := rSum K
@[irreducible] def rAppU : V → List V → Hp → VK → Prop := rAppend
@[irreducible] def rPopU : V → List V → Hp → VK → Prop := fun x vs H Q => rPop x vs H Q ∨ rPopAt x vs H Q
@[irreducible] def rExtU : V → List V → Hp → VK → Prop := rExtend
@[irreducible] def rSlLU (K : PySem.W.Frag) : V → Option Int → Option Int → Hp → VK → Prop := rSlL K
@[irreducible] def rSlSU : V → Option Int → Option Int → Hp → VK → Prop := rSlS
@[irreducible] def rSlTU (K : PySem.W.Frag) : V → Option Int → Option Int → Hp → VK → Prop := rSlT K
section
variable {X : Cx}
theorem CallR.or {f : Value} {r r' : List V → Hp → VK → Prop} (h : CallR X f r) (h' : CallR X f r') : CallR X f (fun xs H Q => r xs H Q ∨ r' xs H Q) := by
  intro pins s σ H xs us Q I r q
  rcases q with q | q
  · exact h pins s σ H xs us Q I r q
  · exact h' pins s σ H xs us Q I r q
theorem MtR.or {id : String} {r r' : V → List V → Hp → VK → Prop} (h : MtR X id r) (h' : MtR X id r') : MtR X id (fun x xs H Q => r x xs H Q ∨ r' x xs H Q) := by
  intro pins s σ H x xs v us Q I rx rs q
  rcases q with q | q
  · exact h pins s σ H x xs v us Q I rx rs q
  · exact h' pins s σ H x xs v us Q I rx rs q
theorem u_len : CallR X (.builtin "len") (rLenU X.K) := by unfold rLenU; exact CallR.or call_len call_lenD
theorem u_isi : CallR X (.builtin "isinstance") (rIsiU X.K) := by unfold rIsiU; exact CallR.or call_isi call_isiT
theorem u_int : CallR X (.type "int") rIntU := by unfold rIntU; exact call_int1
theorem u_bool : CallR X (.type "bool") rBoolU := by unfold rBoolU; exact call_bool1
theorem u_abs : CallR X (.builtin "abs") rAbsU := by unfold rAbsU; exact call_abs
theorem u_ord : CallR X (.builtin "ord") rOrdU := by unfold rOrdU; exact call_ord
theorem u_list : CallR X (.type "list") (rListU X.K) := by unfold rListU; exact call_list_of
theorem u_tuple : CallR X (.type "tuple") (rTupleU X.K) := by unfold rTupleU; exact call_tuple_of
theorem u_all (hc : X.calm = true) : CallR X (.builtin "all") (rAllU X.K) := by unfold rAllU; exact cr_all hc
theorem u_any (hc : X.calm = true) : CallR X (.builtin "any") (rAnyU X.K) := by unfold rAnyU; exact cr_any hc
theorem u_sum (hc : X.calm = true) : CallR X (.builtin "sum") (rSumU X.K) := by unfold rSumU; exact cr_sum hc
theorem u_append : MtR X "list.append" rAppU := by unfold rAppU; exact mt_append
theorem u_pop : MtR X "list.pop" rPopU := by unfold rPopU; exact MtR.or mt_pop mt_popAt
theorem u_extend : MtR X "list.extend" rExtU := by unfold rExtU; exact mt_extend
theorem u_slL : SlR X (rSlLU X.K) := by unfold rSlLU; exact sl_list
theorem u_slS : SlR X rSlSU := by unfold rSlSU; exact sl_str
theorem u_slT : SlR X (rSlTU X.K) := by unfold rSlTU; exact sl_tup
end
def tTru (K : PySem.W.Frag) (ta : TE) : TT := fun σ H Q => ta σ H fun x H' => ∃ k, TruV K x H' k ∧ Q k H'
def rJoin (K : PySem.W.Frag) : V → List V → Hp → VK → Prop := fun x xs H Q => ∃ a p, ∃ ys : List Str, x = .str a ∧ xs = [.ref p] ∧ (SqL K H p (ys.map V.str) ∨ SqT K H p (ys.map V.str)) ∧ (ys.map (·.length)).sum + ys.length * a.length ≤ 16777216 ∧ Q (.str (Txt.join a ys)) H
def rUpper : V → List V → Hp → VK → Prop := fun x xs H Q => ∃ a, x = .str a ∧ xs = [] ∧ a.length ≤ 5592405 ∧ Q (.str (Txt.upper a)) H
section
variable {K : PySem.W.Frag} {H : Hp} {Q : VK} {i j : Int} {x y : V} {a b : Addr} {xs ys : List V}
theorem len_str {z : Str} (h : z.length ≤ 16777216) (q : Q (.int z.length) H) : rLenU K [.str z] H Q := by unfold rLenU; exact .inl ⟨_, _, rfl, ⟨sz_of' h, rfl⟩, q⟩
theorem len_lst (h : SqL K H a xs) (q : Q (.int xs.length) H) : rLenU K [.ref a] H Q := by unfold rLenU; exact .inl ⟨_, _, rfl, .inl ⟨xs, h, rfl⟩, q⟩
theorem len_tup (h : SqT K H a xs) (q : Q (.int xs.length) H) : rLenU K [.ref a] H Q := by unfold rLenU; exact .inl ⟨_, _, rfl, .inr ⟨xs, h, rfl⟩, q⟩
theorem len_dK {kvs : List (Key × V)} (h : H a = some (.dK kvs)) (q : Q (.int kvs.length) H) : rLenU K [.ref a] H Q := by unfold rLenU; exact .inr ⟨_, _, rfl, h, q⟩
theorem isi_go {t n : String} {b : Bool} (ty : TyX K H x (.type t)) (k : PySem.W.kitOne K (.type t) (.type n) = some b) (q : Q (.bl b) H) : rIsiU K [x, .ty n] H Q := by unfold rIsiU; exact .inl ⟨x, .ty n, .type t, .type n, b, rfl, .ty n, ty, k, q⟩
theorem isi2_go {t m n : String} {b c : Bool} (hp : H a = some (.tup [.ty m, .ty n])) (ty : TyX K H x (.type t)) (k1 : PySem.W.kitOne K (.type t) (.type m) = some b) (k2 : PySem.W.kitOne K (.type t) (.type n) = some c) (q : Q (.bl (b || c)) H) : rIsiU K [x, .ref a] H Q := by
  unfold rIsiU
  refine .inr ⟨x, a, _, .type t, _, b || c, rfl, hp, .cons (.ty m) (.cons (.ty n) .nil), ty, ?_, q⟩
  refine kitAny_cons k1 (fun e => ?_) (fun e => by rw [e]; rfl)
  refine kitAny_cons k2 (fun e2 => ?_) (fun e2 => by rw [e2]; exact Bool.or_true _)
  rw [e, e2]
  exact kitAny_nil
theorem int_go (q : Q (.int i) H) : rIntU [.int i] H Q := by unfold rIntU; exact .inl ⟨_, rfl, q⟩
theorem intB_go {k : Bool} (q : Q (.int (if k then 1 else 0)) H) : rIntU [.bl k] H Q := by unfold rIntU; exact .inr ⟨_, rfl, q⟩
theorem abs_go (q : Q (.int (if i < 0 then -i else i)) H) : rAbsU [.int i] H Q := by unfold rAbsU; exact ⟨_, rfl, q⟩
theorem ord_go {c : Nat} (q : Q (.int c) H) : rOrdU [.str ⟨#[c]⟩] H Q := by unfold rOrdU; exact ⟨_, rfl, rfl, q⟩
theorem list_goL (h : SqL K H a xs) (q : ∀ l, H l = none → Q (.ref l) (upd H l (.lst xs))) : rListU K [.ref a] H Q := by unfold rListU; exact ⟨_, _, rfl, .inl h, q⟩
theorem list_goT (h : SqT K H a xs) (q : ∀ l, H l = none → Q (.ref l) (upd H l (.lst xs))) : rListU K [.ref a] H Q := by unfold rListU; exact ⟨_, _, rfl, .inr h, q⟩
theorem tuple_goL (h : SqL K H a xs) (q : ∀ l, H l = none → Q (.ref l) (upd H l (.tup xs))) : rTupleU K [.ref a] H Q := by unfold rTupleU; exact ⟨_, _, rfl, .inl ⟨h, q⟩⟩
theorem tuple_goT (h : SqT K H a xs) (q : Q (.ref a) H) : rTupleU K [.ref a] H Q := by unfold rTupleU; exact ⟨_, _, rfl, .inr ⟨h, q⟩⟩
theorem all_go {bs : List Bool} (h : SqL K H a (bs.map V.bl)) (q : Q (.bl (bs.all id)) H) : rAllU K [.ref a] H Q := by unfold rAllU; exact ⟨_, _, rfl, h, q⟩
theorem any_go {bs : List Bool} (h : SqL K H a (bs.map V.bl)) (q : Q (.bl (bs.any id)) H) : rAnyU K [.ref a] H Q := by unfold rAnyU; exact ⟨_, _, rfl, h, q⟩
theorem sum_go {ns : List Int} (h : SqL K H a (ns.map V.int)) (q : Q (.int ns.sum) H) : rSumU K [.ref a] H Q := by unfold rSumU; exact ⟨_, _, rfl, h, q⟩
theorem app_go (h : H a = some (.lst xs)) (hl : xs.length < 16777216) (q : Q .non (upd H a (.lst (xs ++ [x])))) : rAppU (.ref a) [x] H Q := by unfold rAppU; exact ⟨_, _, _, rfl, rfl, h, szlt_of hl, q⟩
theorem ext_go (h : H a = some (.lst xs)) (h2 : H b = some (.lst ys)) (hl : xs.length + ys.length ≤ 16777216) (q : Q .non (upd H a (.lst (xs ++ ys)))) : rExtU (.ref a) [.ref b] H Q := by unfold rExtU; exact ⟨_, _, _, _, rfl, rfl, h, h2, sz_of' hl, q⟩
theorem pop0_go (h : H a = some (.lst (x :: xs))) (q : Q x (upd H a (.lst xs))) : rPopU (.ref a) [.int 0] H Q := by
  unfold rPopU
  exact .inr ⟨_, _, _, 0, x, rfl, rfl, h, by decide, by decide, by
    unfold seqIndex?
    have e : (0 : Int) < ((x :: xs).length : Int) := by
      show (0 : Int) < ((xs.length + 1 : Nat) : Int)
      omega
    simp [e], rfl, q⟩
theorem popE_go (h : H a = some (.lst (xs ++ [x]))) (q : Q x (upd H a (.lst xs))) : rPopU (.ref a) [] H Q := by
  unfold rPopU
  refine .inl ⟨_, _, x, rfl, rfl, h, by simp, ?_⟩
  rw [List.dropLast_concat]
  exact q
theorem ty_lst (h : SqL K H a xs) : tyV K "list" (.ref a) H := .inl ⟨rfl, _, h⟩
theorem ty_dK {kvs : List (Key × V)} (h : H a = some (.dK kvs)) : tyV K "dict" (.ref a) H := .inr (.inr (.inl ⟨rfl, .inl ⟨_, h⟩⟩))
theorem slL_go {lo hi : Option Int} (h : SqL K H a xs) (q : ∀ p, H p = none → Q (.ref p) (upd H p (.lst (cutV xs lo hi)))) : rSlLU K (.ref a) lo hi H Q := by unfold rSlLU; exact ⟨_, _, rfl, h, q⟩
theorem slS_go {lo hi : Option Int} {z : Str} (h : z.length ≤ 16777216) (q : Q (.str (cutS z lo hi)) H) : rSlSU (.str z) lo hi H Q := by unfold rSlSU; exact ⟨_, rfl, sz_of' h, q⟩
end

/-! ### heaps -/
/-- all but the places of M is kept -/
def Kp (M : List Addr) (H H' : Hp) : Prop := ∀ a o, a ∉ M → H a = some o → H' a = some o
theorem Kp.refl {M : List Addr} {H : Hp} : Kp M H H := fun _ _ _ h => h
theorem Kp.trans {M : List Addr} {H H1 H2 : Hp} (a : Kp M H H1) (b : Kp M H1 H2) : Kp M H H2 := fun x o n h => b x o n (a x o n h)
theorem Kp.at_ {M : List Addr} {H H' : Hp} {a : Addr} {o : HO} (k : Kp M H H') (n : a ∉ M) (h : H a = some o) : H' a = some o := k a o n h
theorem Same.at_ {H H' : Hp} {a : Addr} {o : HO} (k : Same H H') (h : H a = some o) : H' a = some o := k a o h
theorem Kp.sqL {M : List Addr} {K : PySem.W.Frag} {H H' : Hp} {a : Addr} {xs : List V} (k : Kp M H H') (n : a ∉ M) (h : SqL K H a xs) : SqL K H' a xs := by
  rcases h with (h | ⟨o, h⟩) | h
  · exact .inl (.inl (k _ _ n h))
  · exact .inl (.inr ⟨o, k _ _ n h⟩)
  · exact .inr h
theorem Kp.upd_in {M : List Addr} {H H' : Hp} {a : Addr} {o : HO} (k : Kp M H H') (h : a ∈ M) : Kp M H (upd H' a o) := fun x u n e => by
  rw [upd_ne (fun z => n (by rw [z]; exact h))]
  exact k x u n e
theorem Kp.upd_new {M : List Addr} {H H' : Hp} {a : Addr} {o : HO} (k : Kp M H H') (h : H a = none) : Kp M H (upd H' a o) := fun x u n e => by
  rw [upd_ne (ne_of_none e h)]
  exact k x u n e
theorem Kp.upd_new' {M : List Addr} {H H' : Hp} {a : Addr} {o : HO} (k : Kp M H H') (h : H' a = none) : Kp M H (upd H' a o) := fun x u n e => by
  rw [upd_ne (ne_of_none (k x u n e) h)]
  exact k x u n e
theorem Kp.mono {M N : List Addr} {H H' : Hp} (k : Kp M H H') (h : ∀ a, a ∈ M → a ∈ N) : Kp N H H' := fun x u n e => k x u (fun z => n (h x z)) e
/-- what is changed was not there at first -/
theorem Kp.drop {M N : List Addr} {H H1 H2 : Hp} (k : Kp M H H1) (k2 : Kp N H1 H2) (h : ∀ a, a ∈ N → a ∈ M ∨ H a = none) : Kp M H H2 := fun x u n e => by
  refine k2 x u (fun z => ?_) (k x u n e)
  rcases h x z with q | q
  · exact n q
  · rw [e] at q
    cases q
theorem Kp.none_of {M : List Addr} {H H' : Hp} {p : Addr} (k : Kp M H H') (n : p ∉ M) (h : H' p = none) : H p = none := by
  cases q : H p with
  | none => rfl
  | some o =>
    rw [k p o n q] at h
    cases h
theorem nm_cons {a b : Addr} {M : List Addr} (h : a ≠ b) (t : a ∉ M) : a ∉ b :: M := fun z => by
  rcases List.mem_cons.mp z with e | e
  · exact h e
  · exact t e
theorem st_nx {D : Ends} {σ : L2.St} {H : Hp} (q : D.nx σ H) : tNext D σ H := q
theorem iteD {c A B : Prop} [Decidable c] (h1 : c → A) (h2 : ¬ c → B) : if decide c = true then A else B := by
  by_cases h : c
  · rw [decide_eq_true h]
    exact iteT (h1 h)
  · rw [decide_eq_false h]
    exact iteF (h2 h)
theorem Kp.of_same {M : List Addr} {H H' : Hp} (a : Same H H') : Kp M H H' := fun x o _ h => a x o h

/-! ### comprehensions: what is made so far is told -/
def Acc (D : Addr) (Pv : Nat → List V → Hp → Prop) (i : Nat) (H : Hp) : Prop := ∃ acc, acc.length ≤ i ∧ H D = some (.lst acc) ∧ Pv i acc H
theorem lc_acc {J : It} {n : Nat} {G : Hp → Prop} {Y : Nat → Hp → V → Hp → Prop} (w : Walk J n G Y) {g : TG} {tt : TT} {te : TE} {vs : List Nat} {σ : L2.St} {H1 : Hp} {D : Addr} {Qd : Hp → Prop} (Pv : Nat → List V → Hp → Prop)
    (h0 : Pv 0 [] (upd H1 D (.lst []))) (hG : ∀ i acc H, i ≤ n → Pv i acc H → G H)
    (hs : ∀ i x acc H H', i < n → acc.length ≤ i → H D = some (.lst acc) → Pv i acc H → Y i H x H' → g x (wipe σ vs) H' fun σ2 H2 => wipe σ2 vs = wipe σ vs ∧ tt σ2 H2 fun b H3 =>
      if b = true then te σ2 H3 fun y H4 => ∃ acc, H4 D = some (.lst acc) ∧ acc.length < sizeLine ∧ Acc D Pv (i + 1) (upd H4 D (.lst (acc ++ [y]))) else Acc D Pv (i + 1) H3)
    (hd : ∀ acc H, acc.length ≤ n → H D = some (.lst acc) → Pv n acc H → Qd H) :
    ∃ W : Nat → Nat → Hp → Prop, (∃ m, W 0 m (upd H1 D (.lst []))) ∧ ∀ i m H, W i m H →
      (J.stop i H ∧ Qd H) ∨ (J.go i H ∧ ∃ Nx : Hp → Prop, (∀ H', Nx H' → ∃ m', m' < m ∧ W (i + 1) m' H') ∧ ∀ x H', J.yld i H x H' → g x (wipe σ vs) H' fun σ2 H2 => wipe σ2 vs = wipe σ vs ∧ tt σ2 H2 fun b H3 =>
        if b = true then te σ2 H3 fun y H4 => ∃ acc, H4 D = some (.lst acc) ∧ acc.length < sizeLine ∧ Nx (upd H4 D (.lst (acc ++ [y]))) else Nx H3) :=
  lc_it w (Acc D Pv) ⟨[], Nat.zero_le _, upd_same, h0⟩ (fun i H hi ⟨acc, _, _, p⟩ => hG i acc H hi p) (fun i x H H' hi ⟨acc, hl, hD, p⟩ y => hs i x acc H H' hi hl hD p y) (fun H ⟨acc, hl, hD, p⟩ => hd acc H hl hD p)
theorem acc_go {D : Addr} {Pv : Nat → List V → Hp → Prop} {i : Nat} {H : Hp} {acc : List V} {y : V} (hl : acc.length ≤ i) (hi : i < 16777215) (hD : H D = some (.lst acc)) (p : Pv (i + 1) (acc ++ [y]) (upd H D (.lst (acc ++ [y])))) :
    ∃ acc, H D = some (.lst acc) ∧ acc.length < sizeLine ∧ Acc D Pv (i + 1) (upd H D (.lst (acc ++ [y]))) := by
  refine ⟨acc, hD, Nat.lt_of_le_of_lt (show acc.length ≤ 16777215 by omega) (by decide), acc ++ [y], ?_, upd_same, p⟩
  rw [List.length_append]
  show acc.length + 1 ≤ i + 1
  omega
theorem acc_skip {D : Addr} {Pv : Nat → List V → Hp → Prop} {i : Nat} {H : Hp} {acc : List V} (hl : acc.length ≤ i) (hD : H D = some (.lst acc)) (p : Pv (i + 1) acc H) : Acc D Pv (i + 1) H := ⟨acc, Nat.le_succ_of_le hl, hD, p⟩
/-! ### isinstance of built-in kinds -/
theorem ki_NoneType_str {K : PySem.W.Frag} : PySem.W.kitOne K (.type "NoneType") (.type "str") = some false := kit_ty (by decide +kernel)
theorem ki_NoneType_int {K : PySem.W.Frag} : PySem.W.kitOne K (.type "NoneType") (.type "int") = some false := kit_ty (by decide +kernel)
theorem ki_NoneType_bool {K : PySem.W.Frag} : PySem.W.kitOne K (.type "NoneType") (.type "bool") = some false := kit_ty (by decide +kernel)
theorem ki_NoneType_list {K : PySem.W.Frag} : PySem.W.kitOne K (.type "NoneType") (.type "list") = some false := kit_ty (by decide +kernel)
theorem ki_NoneType_tuple {K : PySem.W.Frag} : PySem.W.kitOne K (.type "NoneType") (.type "tuple") = some false := kit_ty (by decide +kernel)
theorem ki_NoneType_dict {K : PySem.W.Frag} : PySem.W.kitOne K (.type "NoneType") (.type "dict") = some false := kit_ty (by decide +kernel)
theorem ki_bool_str {K : PySem.W.Frag} : PySem.W.kitOne K (.type "bool") (.type "str") = some false := kit_ty (by decide +kernel)
theorem ki_bool_int {K : PySem.W.Frag} : PySem.W.kitOne K (.type "bool") (.type "int") = some true := kit_ty (by decide +kernel)
theorem ki_bool_bool {K : PySem.W.Frag} : PySem.W.kitOne K (.type "bool") (.type "bool") = some true := kit_ty (by decide +kernel)
theorem ki_bool_list {K : PySem.W.Frag} : PySem.W.kitOne K (.type "bool") (.type "list") = some false := kit_ty (by decide +kernel)
theorem ki_bool_tuple {K : PySem.W.Frag} : PySem.W.kitOne K (.type "bool") (.type "tuple") = some false := kit_ty (by decide +kernel)
theorem ki_bool_dict {K : PySem.W.Frag} : PySem.W.kitOne K (.type "bool") (.type "dict") = some false := kit_ty (by decide +kernel)
theorem ki_int_str {K : PySem.W.Frag} : PySem.W.kitOne K (.type "int") (.type "str") = some false := kit_ty (by decide +kernel)
theorem ki_int_int {K : PySem.W.Frag} : PySem.W.kitOne K (.type "int") (.type "int") = some true := kit_ty (by decide +kernel)
theorem ki_int_bool {K : PySem.W.Frag} : PySem.W.kitOne K (.type "int") (.type "bool") = some false := kit_ty (by decide +kernel)
theorem ki_int_list {K : PySem.W.Frag} : PySem.W.kitOne K (.type "int") (.type "list") = some false := kit_ty (by decide +kernel)
theorem ki_int_tuple {K : PySem.W.Frag} : PySem.W.kitOne K (.type "int") (.type "tuple") = some false := kit_ty (by decide +kernel)
theorem ki_int_dict {K : PySem.W.Frag} : PySem.W.kitOne K (.type "int") (.type "dict") = some false := kit_ty (by decide +kernel)
theorem ki_str_str {K : PySem.W.Frag} : PySem.W.kitOne K (.type "str") (.type "str") = some true := kit_ty (by decide +kernel)
theorem ki_str_int {K : PySem.W.Frag} : PySem.W.kitOne K (.type "str") (.type "int") = some false := kit_ty (by decide +kernel)
theorem ki_str_bool {K : PySem.W.Frag} : PySem.W.kitOne K (.type "str") (.type "bool") = some false := kit_ty (by decide +kernel)
theorem ki_str_list {K : PySem.W.Frag} : PySem.W.kitOne K (.type "str") (.type "list") = some false := kit_ty (by decide +kernel)
theorem ki_str_tuple {K : PySem.W.Frag} : PySem.W.kitOne K (.type "str") (.type "tuple") = some false := kit_ty (by decide +kernel)
theorem ki_str_dict {K : PySem.W.Frag} : PySem.W.kitOne K (.type "str") (.type "dict") = some false := kit_ty (by decide +kernel)
theorem ki_list_str {K : PySem.W.Frag} : PySem.W.kitOne K (.type "list") (.type "str") = some false := kit_ty (by decide +kernel)
theorem ki_list_int {K : PySem.W.Frag} : PySem.W.kitOne K (.type "list") (.type "int") = some false := kit_ty (by decide +kernel)
theorem ki_list_bool {K : PySem.W.Frag} : PySem.W.kitOne K (.type "list") (.type "bool") = some false := kit_ty (by decide +kernel)
theorem ki_list_list {K : PySem.W.Frag} : PySem.W.kitOne K (.type "list") (.type "list") = some true := kit_ty (by decide +kernel)
theorem ki_list_tuple {K : PySem.W.Frag} : PySem.W.kitOne K (.type "list") (.type "tuple") = some false := kit_ty (by decide +kernel)
theorem ki_list_dict {K : PySem.W.Frag} : PySem.W.kitOne K (.type "list") (.type "dict") = some false := kit_ty (by decide +kernel)
theorem ki_tuple_str {K : PySem.W.Frag} : PySem.W.kitOne K (.type "tuple") (.type "str") = some false := kit_ty (by decide +kernel)
theorem ki_tuple_int {K : PySem.W.Frag} : PySem.W.kitOne K (.type "tuple") (.type "int") = some false := kit_ty (by decide +kernel)
theorem ki_tuple_bool {K : PySem.W.Frag} : PySem.W.kitOne K (.type "tuple") (.type "bool") = some false := kit_ty (by decide +kernel)
theorem ki_tuple_list {K : PySem.W.Frag} : PySem.W.kitOne K (.type "tuple") (.type "list") = some false := kit_ty (by decide +kernel)
theorem ki_tuple_tuple {K : PySem.W.Frag} : PySem.W.kitOne K (.type "tuple") (.type "tuple") = some true := kit_ty (by decide +kernel)
theorem ki_tuple_dict {K : PySem.W.Frag} : PySem.W.kitOne K (.type "tuple") (.type "dict") = some false := kit_ty (by decide +kernel)
theorem ki_dict_str {K : PySem.W.Frag} : PySem.W.kitOne K (.type "dict") (.type "str") = some false := kit_ty (by decide +kernel)
theorem ki_dict_int {K : PySem.W.Frag} : PySem.W.kitOne K (.type "dict") (.type "int") = some false := kit_ty (by decide +kernel)
theorem ki_dict_bool {K : PySem.W.Frag} : PySem.W.kitOne K (.type "dict") (.type "bool") = some false := kit_ty (by decide +kernel)
theorem ki_dict_list {K : PySem.W.Frag} : PySem.W.kitOne K (.type "dict") (.type "list") = some false := kit_ty (by decide +kernel)
theorem ki_dict_tuple {K : PySem.W.Frag} : PySem.W.kitOne K (.type "dict") (.type "tuple") = some false := kit_ty (by decide +kernel)
theorem ki_dict_dict {K : PySem.W.Frag} : PySem.W.kitOne K (.type "dict") (.type "dict") = some true := kit_ty (by decide +kernel)
theorem Kp.sqT {M : List Addr} {K : PySem.W.Frag} {H H' : Hp} {a : Addr} {xs : List V} (k : Kp M H H') (n : a ∉ M) (h : SqT K H a xs) : SqT K H' a xs := by
  rcases h with (h | ⟨o, h⟩) | h
  · exact .inl (.inl (k _ _ n h))
  · exact .inl (.inr ⟨o, k _ _ n h⟩)
  · exact .inr h
theorem iteN {c A B : Prop} [Decidable c] (h1 : ¬ c → A) (h2 : c → B) : if (!decide c) = true then A else B := by
  by_cases h : c
  · rw [decide_eq_true h]
    exact iteF (h2 h)
  · rw [decide_eq_false h]
    exact iteT (h1 h)
theorem iteB {b : Bool} {A B : Prop} (h1 : b = true → A) (h2 : b = false → B) : if b = true then A else B := by
  cases b with
  | true => exact iteT (h1 rfl)
  | false => exact iteF (h2 rfl)
theorem tyX_same {K : PySem.W.Frag} {H H' : Hp} {x : V} {t : Value} (s : Same H H') (h : TyX K H x t) : TyX K H' x t := by
  cases h with
  | base b =>
    refine .base ?_
    cases b with
    | non => exact .non
    | bl y => exact .bl y
    | int i => exact .int i
    | str y => exact .str y
    | flt y => exact .flt y
    | lst e => exact .lst (s _ _ e)
    | frz e => exact .frz (s _ _ e)
    | tup e => exact .tup (s _ _ e)
    | dK e => exact .dK (s _ _ e)
    | dT e => exact .dT (s _ _ e)
    | ins e a b c d f => exact .ins (s _ _ e) a b c d f
  | byt b => exact .byt b
  | set e => exact .set (s _ _ e)
  | kList e c => exact .kList e c
  | kTuple e c => exact .kTuple e c
  | kDict e c => exact .kDict e c
  | fTuple e => exact .fTuple (s _ _ e)
  | fDict e => exact .fDict (s _ _ e)
theorem Kp.same {H H' : Hp} (k : Kp [] H H') : Same H H' := fun a o e => k a o List.not_mem_nil e
theorem str_size (z : Str) : z.cps.size = z.length := rfl
end Kb
/-! ### data: what == asks -/
namespace Kb
open PySem PySem.Spec PyProof.Rows L2
/-- small data: no deeper than n, its texts of signs that there are -/
def Sh (n : Nat) (d : PyData) : Prop := d.canLay0 = true ∧ d.depth ≤ n
theorem Sh.ok {n : Nat} {d : PyData} (h : Sh n d) (hn : n ≤ 64) : SeqAt.shaped d = true := by
  unfold SeqAt.shaped
  rw [h.1, Bool.true_and]
  exact decide_eq_true (Nat.le_trans h.2 hn)
theorem sh_non {n : Nat} : Sh n .none := ⟨by simp [PyData.canLay0], by simp [PyData.depth]⟩
theorem sh_bl {n : Nat} {b : Bool} : Sh n (.bool b) := ⟨by simp [PyData.canLay0], by simp [PyData.depth]⟩
theorem sh_int {n : Nat} {i : Int} : Sh n (.int i) := ⟨by simp [PyData.canLay0], by simp [PyData.depth]⟩
theorem sh_str {n : Nat} {x : Str} (h : ∀ c ∈ x.cps.toList, c < 1114112) : Sh n (.str x) := by
  refine ⟨?_, by simp [PyData.depth]⟩
  simp only [PyData.canLay0, PyData.strOk]
  exact Array.all_eq_true'.mpr fun c hc => decide_eq_true (h c (Array.mem_toList_iff.mpr hc))
theorem sh_all {n : Nat} : ∀ {ds : List PyData}, (∀ d ∈ ds, Sh n d) → PyData.canLayAll0 ds = true ∧ PyData.depthAll ds ≤ n
  | [], _ => ⟨by simp [PyData.canLayAll0], by simp [PyData.depthAll]⟩
  | d :: ds, h => by
    obtain ⟨a, b⟩ := h d (by simp)
    obtain ⟨c, e⟩ := sh_all fun x hx => h x (List.mem_cons_of_mem _ hx)
    exact ⟨by simp only [PyData.canLayAll0, a, c, Bool.and_self], by simp only [PyData.depthAll]; omega⟩
theorem sh_lst {n : Nat} {ds : List PyData} (h : ∀ d ∈ ds, Sh n d) : Sh (n + 1) (.list ds) := by
  obtain ⟨a, b⟩ := sh_all h
  exact ⟨by simp only [PyData.canLay0, a], by simp only [PyData.depth]; omega⟩
theorem sh_tup {n : Nat} {ds : List PyData} (h : ∀ d ∈ ds, Sh n d) : Sh (n + 1) (.tuple ds) := by
  obtain ⟨a, b⟩ := sh_all h
  exact ⟨by simp only [PyData.canLay0, a], by simp only [PyData.depth]; omega⟩
theorem sh_nil {n : Nat} : Sh (n + 1) (.list []) := sh_lst fun d h => nomatch h
theorem eqv_lnil : ∀ ds : List PyData, PyData.eqv (.list ds) (.list []) = ds.isEmpty
  | [] => by simp [PyData.eqv, PyData.eqvAll]
  | d :: ds => by simp [PyData.eqv, PyData.eqvAll]
/-- a list of ints as data -/
theorem dp_ints {K : PySem.W.Frag} {H : Hp} : ∀ ns : List Int, DpAll K H (ns.map V.int) (ns.map PyData.int)
  | [] => .nil
  | n :: ns => .cons (.int n) (dp_ints ns)
theorem sh_ints {ns : List Int} : Sh 1 (.list (ns.map PyData.int)) := sh_lst (n := 0) fun d h => by
  obtain ⟨i, _, rfl⟩ := List.mem_map.mp h
  exact sh_int
theorem eqvAll_ints : ∀ xs ys : List Int, PyData.eqvAll (xs.map PyData.int) (ys.map PyData.int) = decide (xs = ys)
  | [], [] => by simp [PyData.eqvAll]
  | [], y :: ys => by simp [PyData.eqvAll]
  | x :: xs, [] => by simp [PyData.eqvAll]
  | x :: xs, y :: ys => by
    have ih := eqvAll_ints xs ys
    simp only [List.map_cons, PyData.eqvAll, PyData.eqv, ih]
    by_cases h : x = y
    · subst h
      simp
    · simp [h]
theorem eqv_ints (xs ys : List Int) : PyData.eqv (.list (xs.map PyData.int)) (.list (ys.map PyData.int)) = decide (xs = ys) := by
  simp only [PyData.eqv]
  exact eqvAll_ints xs ys
end Kb
/-! ### slices -/
namespace Kb
open PySem PySem.Spec PyProof.Rows L2
def cutI {α : Type} (xs : List α) (lo hi : Option Int) : List α := (xs.drop (HT.sIx xs.length 0 lo)).take (HT.sIx xs.length xs.length hi - HT.sIx xs.length 0 lo)
theorem cutV_map {α : Type} (f : α → V) (xs : List α) (lo hi : Option Int) : cutV (xs.map f) lo hi = (cutI xs lo hi).map f := by
  unfold cutV cutI
  rw [List.length_map, List.map_take, List.map_drop]
theorem cutI_len {α : Type} (xs : List α) (lo hi : Option Int) : (cutI xs lo hi).length ≤ xs.length := by
  unfold cutI
  rw [List.length_take, List.length_drop]
  omega
theorem cutI_mem {α : Type} {xs : List α} {lo hi : Option Int} {x : α} (h : x ∈ cutI xs lo hi) : x ∈ xs := List.mem_of_mem_drop (List.mem_of_mem_take h)
end Kb
/-! ### calls by names alone -/
namespace Kb
open PySem PySem.Spec PyProof.Rows L2
theorem pe_callKw {X : Cx} {CX : CXT} {k : Nat} {x : Str} {st : Stmt} {ps ks : List Str} {sp : Sp} {E : XK} {kws : List Keyword} {tk : TA} {p pos : Pos} (D : Def X.K X.mg st x) (C : Cal X.prog X.w X.K X.mg X.base CX k x ps sp)
    (kb : ∀ (kV doc pm : Value) (an : Option Addr) (cdv ct : Value) (us ws : List Value), (us ++ (ws ++ [])).length = ps.length → bindArgs (PySem.W.fnOf x x (defArgs st) (defBody st) (defScope st) .none kV doc pm an cdv ct) ⟨us, ks.zip ws⟩ = pure (ps.zip (us ++ (ws ++ []))))
    (hr : Room k X.A) (hg : Gl X x) (hx : Passes CX X E) (hkw : PK X kws tk) (hall : (backToKw pos (keywordEach kws X.env)).all (·.1.isSome) = true := by rfl) (hks : (backToKw pos (keywordEach kws X.env)).filterMap (·.1) = ks := by rfl)
    (hdb : (x == ("__debug__" : Str)) = false := by decide)
    (hpl : ((backTo pos (starEach [] X.env)).any (·.1) || (backToKw pos (keywordEach kws X.env)).any (·.1.isNone)) = false := by rfl) :
    PE X (.Call (.Name x p) [] kws pos) (tCall sp [] E tk) := by
  obtain ⟨f, fd, hm, F, hk, _, hA⟩ := C.ex
  obtain ⟨f', fd', hm', F'⟩ := D
  have e := hm'.symm.trans hm
  cases e
  have e2 := hA.eq (Fun.at_ F')
  subst e2
  have K1 : KBinds X.K fd ps ks (fun us ws => us ++ (ws ++ [])) (fun vs zs => vs ++ (zs ++ [])) := by
    obtain ⟨oc, od, kV, doc, pm, an, cdv, ct, osl, rfl, lk, hcd⟩ := F'.ex
    exact ⟨fun s us ws _ hl => .of_eq (kb kV doc pm an cdv ct us ws hl), fun r r' => r.append (r'.append .nil)⟩
  exact pe_callK0 F hr hg hm hk K1 hx hkw hall hks hdb hpl
end Kb
/-! ### enumerate(v, start=k): v a list or a tuple that stands still -/
namespace Kb
open PySem PySem.Spec PyProof.Rows L2
/-- a thing at a that is walked by an iterator of its own: St H xs tells that it holds xs, Ar h its that the machine's object does, At h it i that the iterator stands at i -/
structure Src (K : PySem.W.Frag) (a : Addr) (S : Hp → List V → Prop) (Ar : Heap → Array Value → Prop) (At : Heap → Addr → Nat → Prop) (ob : Obj) : Prop where
  get : ∀ {X : Cx} {pins : List (Addr × Obj)} {σ : L2.St} {H : Hp} {s : Shared} {xs : List V}, X.K = K → Inv X pins σ H s → S H xs → ∃ its : List Value, Vals xs its ∧ Ar s.heap its.toArray
  inj : ∀ {X : Cx} {pins : List (Addr × Obj)} {σ : L2.St} {H : Hp} {s : Shared} {xs ys : List V}, X.K = K → Inv X pins σ H s → S H xs → S H ys → xs = ys
  lives : ∀ {h : Heap} {its : Array Value}, Ar h its → ∃ o, h.get? a = some o
  iobj : ∀ {h : Heap} {it : Addr} {i : Nat}, At h it i → ∃ o, h.get? it = some o ∧ ∀ v, o.data ≠ .cell v
  ikeep : ∀ {h h' : Heap} {it : Addr} {i : Nat}, At h it i → (∀ o, h.get? it = some o → h'.get? it = some o) → At h' it i
  draw : ∀ (prog : Program) (w : World) (A : Around) (it : Addr) (its : Array Value), A.handled = none → a ≠ it → Draws prog w A it [it, a] its.size (fun i v => its[i]? = some v) (fun i h => At h it i ∧ Ar h its)
  begin : ∀ its, Begins (.ref a) ob fun h => Ar h its
  first : ∀ {h : Heap} {it : Addr}, h.get? it = some ob → At h it 0
theorem src_list (K : PySem.W.Frag) (a : Addr) : Src K a (fun H xs => SqL K H a xs) (fun h its => h.IsList a its) (fun h it i => h.IsListIter it a i) { cls := .type "list_iterator", data := .fields #[.ref a, .int 0 0] } where
  get := fun hK I h => by
    subst hK
    obtain ⟨its, r, p, _⟩ := I.list h
    exact ⟨its, r, p.isList⟩
  inj := fun hK I h h' => by
    subst hK
    exact I.list_inj h h'
  lives := fun ⟨o, e, _⟩ => ⟨o, e⟩
  iobj := fun ⟨o, e, _, d⟩ => ⟨o, e, fun v z => by rw [d] at z; cases z⟩
  ikeep := fun st k => st.at k
  draw := fun prog w A it its hh ne => Draws.list hh it a ne its
  begin := fun its => begins_list a its
  first := fun e => ⟨_, e, rfl, rfl⟩
theorem src_tup (K : PySem.W.Frag) (a : Addr) : Src K a (fun H xs => SqT K H a xs) (fun h its => h.IsTuple a its) (fun h it i => h.IsTupleIter it a i) { cls := .type "tuple_iterator", data := .fields #[.ref a, .int 0 0] } where
  get := fun hK I h => by
    subst hK
    obtain ⟨its, r, p, _⟩ := I.tuple h
    exact ⟨its, r, p⟩
  inj := fun hK I h h' => by
    subst hK
    exact I.tuple_inj h h'
  lives := fun ⟨o, e, _⟩ => ⟨o, e⟩
  iobj := fun ⟨o, e, _, d⟩ => ⟨o, e, fun v z => by rw [d] at z; cases z⟩
  ikeep := fun st k => st.at k
  draw := fun prog w A it its hh ne => Draws.tuple hh it a ne its
  begin := fun its => begins_tuple a its
  first := fun e => ⟨_, e, rfl, rfl⟩
def ItS (S : Hp → List V → Prop) (k : Int) : It :=
  ⟨fun i H => ∃ xs x, S H xs ∧ xs[i]? = some x, fun i H v H' => ∃ T x, v = .ref T ∧ H T = none ∧ H' = upd H T (.tup [.int (k + (i : Nat)), x]) ∧ ∀ xs, S H xs → xs[i]? = some x, fun i H => ∃ xs : List V, S H xs ∧ xs.length = i⟩
section
variable {K : PySem.W.Frag} {a : Addr} {S : Hp → List V → Prop} {Ar : Heap → Array Value → Prop} {At : Heap → Addr → Nat → Prop} {ob : Obj}
theorem turn_enumS (sr : Src K a S Ar At ob) {P : Program} {w : World} {elts : List Expr} {kk : Nat} {tpos : Pos} (k : Int) (e it : Addr) (hai : a ≠ it) (hei : e ≠ it) (hea : e ≠ a) :
    Turn P w K (.Tuple elts kk tpos) (ItS S k) [e, it] e (fun i h => (∃ old, IsEnum h e it (k + (i : Nat)) old) ∧ At h it i) where
  mem := List.mem_cons_self
  obj := fun i h ⟨⟨old, he⟩, hi⟩ b hb => by
    rcases List.mem_cons.mp hb with z | z
    · subst z
      exact ⟨_, he, fun v q => nomatch q⟩
    · rw [List.mem_singleton.mp z]
      exact sr.iobj hi
  keep := fun i h h' ⟨⟨old, he⟩, hi⟩ kp => ⟨⟨old, kp e List.mem_cons_self _ he⟩, sr.ikeep hi fun o q => kp it (List.mem_cons_of_mem _ (List.mem_singleton.mpr rfl)) o q⟩
  item := fun X hP hw hK hc i pins s σ H E I hf st hg => by
    subst hP hw
    obtain ⟨xs, x, hS, hx⟩ := hg
    obtain ⟨its, rv, hA⟩ := sr.get hK I hS
    have hlen := rv.length
    have hil : i < its.toArray.size := by
      have := (List.getElem?_eq_some_iff.mp hx).1
      simp only [List.size_toArray]
      omega
    have D := sr.draw X.prog X.w X.A.in1 it its.toArray (I.ok.hd hc) hai
    have hef : e ∉ [it, a] := fun z => by
      rcases List.mem_cons.mp z with q | q
      · exact hei q
      · exact hea (List.mem_singleton.mp q)
    refine (GoesN.enumFrom (elts := elts) (x1 := kk) (pos := tpos) k D e hei hef List.mem_cons_self).goes i s _ E hil ⟨st.1, st.2, hA⟩ fun v h' tk hY st' hk _ => ?_
    obtain ⟨T, t, u, rfl, hT, hu, hTup⟩ := hY
    have hx2 : its[i]? = some u := by simpa using hu
    obtain ⟨u', hu', ru⟩ := rv.get hx
    rw [hx2] at hu'
    cases hu'
    have hk' : ∀ b o, b ∉ [e, it] → s.heap.get? b = some o → h'.get? b = some o := hk
    have new : ObjOk X.prog X.w (upd H T (.tup [.int (k + (i : Nat)), x])) h' T (.tup [.int (k + (i : Nat)), x]) := ⟨by show 2 ≤ sizeLine; decide, _, .cons ⟨_, rfl⟩ (.cons ru .nil), hTup⟩
    refine ⟨.ref T, _, I.turnedNew (t' := tk) hk' hf hT new, rfl, ⟨T, x, rfl, I.hok.fresh hT, rfl, fun ys hy => by rw [sr.inj hK I hy hS]; exact hx⟩, ⟨st'.1, st'.2.1⟩, fun b hb => ?_⟩
    obtain ⟨o, hbo⟩ : ∃ o, s.heap.get? b = some o := by
      rcases List.mem_cons.mp hb with z | z
      · rw [z]
        obtain ⟨old, q⟩ := st.1
        exact ⟨_, q⟩
      · rw [List.mem_singleton.mp z]
        obtain ⟨o, q, _⟩ := sr.iobj st.2
        exact ⟨o, q⟩
    rw [upd_ne (Nat.ne_of_lt (Nat.lt_of_lt_of_le (Heap.lt_size hbo) hT))]
    exact (hf b hb).1
  done := fun X hP hw hK hc i pins s σ H E I hf st hg => by
    subst hP hw
    obtain ⟨xs, hS, hx⟩ := hg
    obtain ⟨its, rv, hA⟩ := sr.get hK I hS
    have hlen := rv.length
    have D := sr.draw X.prog X.w X.A.in1 it its.toArray (I.ok.hd hc) hai
    have ei : i = its.toArray.size := by
      simp only [List.size_toArray]
      omega
    subst ei
    obtain ⟨f0, f1, f2, f3, f4, f5⟩ := hf it (List.mem_cons_of_mem _ (List.mem_singleton.mpr rfl))
    obtain ⟨old, he⟩ := st.1
    exact wpAny_pyNext_enum_endD D he ⟨st.2, hA⟩ fun h' eb => ⟨rfl, I.turned (t' := s.toks) (fun b o hb q => eb b o hb q) f0 f1 f3 f4 f5⟩
  self := fun A i s Q E st h => let ⟨⟨_, he⟩, _⟩ := st; wpAny_pyIter_enum he h
end
/-- enumerate(v, start=k) -/
@[irreducible] def iEnumS (K : PySem.W.Frag) (ta : TA) (tk : TE) : TI := fun σ H R => ta σ H fun vs H1 => tk σ H1 fun z H2 => ∃ a k, vs = [.ref a] ∧ z = .int k ∧ (-9223372036854775808 ≤ k ∧ k < 9223372036854775808) ∧
  ((∃ xs, SqL K H2 a xs ∧ R (ItS (fun H xs => SqL K H a xs) k) H2) ∨ ∃ xs, SqT K H2 a xs ∧ R (ItS (fun H xs => SqT K H a xs) k) H2)
section
variable {X : Cx} {e ke : Expr} {ta : TA} {tk : TE} {p pos kpos tpos : Pos} {elts : List Expr} {kk : Nat}
theorem enumS_go {K : PySem.W.Frag} {a : Addr} {S : Hp → List V → Prop} {Ar : Heap → Array Value → Prop} {At : Heap → Addr → Nat → Prop} {ob : Obj} (hK : X.K = K) (sr : Src K a S Ar At ob) {pins : List (Addr × Obj)} {s : Shared} {σ : L2.St} {H : Hp} {R : It → Hp → Prop} {xs : List V} {k : Int} {t : Tok}
    (I : Inv X pins σ H s) (hS : S H xs) (h0 : -9223372036854775808 ≤ k) (h1 : k < 9223372036854775808) (q : R (ItS S k) H) :
    wpAny (model X.prog X.w) X.A (PySem.call (.type "enumerate") [.ref a] [(Str.ofString "start", .int k t)]) (fun v s1 => wpAny (model X.prog X.w) X.A (pyIter v) (PIE X pins σ (.Tuple elts kk tpos) R) X.xe s1) X.xe s := by
  obtain ⟨its, rv, hA⟩ := sr.get hK I hS
  subst hK
  refine enum_begins_start (sr.begin its.toArray) hA (by omega) (by omega) fun h' he hit hsz hk => wpAny_pyIter_enum he ?_
  have I2 : Inv X pins σ H { s with heap := h' } := I.kept (t' := s.toks) hk
  obtain ⟨o, ho⟩ := sr.lives hA
  have hlt := Heap.lt_size ho
  refine ⟨s.heap.objs.size + 1, [s.heap.objs.size + 1, s.heap.objs.size], _, _, H, rfl, I2, turn_enumS sr k (s.heap.objs.size + 1) s.heap.objs.size (Nat.ne_of_lt hlt) (Nat.succ_ne_self _) (Nat.ne_of_gt (Nat.lt_succ_of_lt hlt)), ⟨⟨.none, ?_⟩, sr.first hit⟩, fun b hb => ?_, q⟩
  · have e0 : k + ((0 : Nat) : Int) = k := by omega
    rw [e0]
    exact he
  · have hle : s.heap.objs.size ≤ b := by
      rcases List.mem_cons.mp hb with z | z
      · rw [z]
        exact Nat.le_succ _
      · rw [List.mem_singleton.mp z]
        exact Nat.le_refl _
    exact I.fpOk hle (I.hok.fresh hle)
/-- a built-in class called with names -/
theorem callTy_kw {M : Model} {A : Around} {E : Value → Shared → Prop} {s : Shared} {env : Env} {T : String} {kws : List Keyword} {Q : Value → Shared → Prop}
    (h : wpAny M A (spliced (backTo pos (starEach [e] env))) (fun vs s1 => wpAny M A (evalAll ((backToKw pos (keywordEach kws env)).map (·.2)))
      (fun ks s2 => wpAny M A (PySem.call (.type T) vs (((backToKw pos (keywordEach kws env)).filterMap (·.1)).zip ks)) Q E s2) E s1) E s)
    (he : backTo pos (starEach [e] env) = (false, eval e env) :: backTo pos (starEach [] env)) (hp : ((backTo pos (starEach [e] env)).any (·.1) || (backToKw pos (keywordEach kws env)).any (·.1.isNone)) = false)
    (ha : (backToKw pos (keywordEach kws env)).all (·.1.isSome) = true) :
    wpAny M A (callWith pos (.type T) [] (backTo pos (starEach [e] env)) (backToKw pos (keywordEach kws env))) Q E s := by
  refine PySem.W.callWith_of (P := fun _ => True) hp (fun _ _ => ⟨.machine, .inr (.inl rfl), .now⟩) ?_
  rw [he] at h ⊢
  exact evalArgs_kwB ha (thn h fun vs s1 h1 => thn h1 fun ks s2 h2 => ⟨trivial, h2⟩)
theorem pi_enumS (hg : Gl X "enumerate") (hm : X.mg "enumerate" = none) (ha : PA X [e] ta) (hk : PE X ke tk)
    (he : backTo pos (starEach [e] X.env) = (false, eval e X.env) :: backTo pos (starEach [] X.env) := by rfl)
    (hp : ((backTo pos (starEach [e] X.env)).any (·.1) || (backToKw pos (keywordEach [⟨some "start", ke, kpos⟩] X.env)).any (·.1.isNone)) = false := by rfl)
    (hall : (backToKw pos (keywordEach [⟨some "start", ke, kpos⟩] X.env)).all (·.1.isSome) = true := by rfl) (hks : (backToKw pos (keywordEach [⟨some "start", ke, kpos⟩] X.env)).filterMap (·.1) = [Str.ofString "start"] := by rfl) :
    PI X (.Tuple elts kk tpos) (.Call (.Name "enumerate" p) [e] [⟨some "start", ke, kpos⟩] pos) (iEnumS X.K ta tk) := by
  unfold iEnumS
  refine ⟨fun pins s σ H R I h => ?_⟩
  refine wpAny_Call_Name_kw (ld_blt I hg hm boot_enumerate ?_ (by decide) (by decide))
  have hkw : PK X [⟨some "start", ke, kpos⟩] (tCons tk tNil) := pk_cons hk pk_nil
  refine callTy_kw (thn (ha.run pos pins s σ H _ I h) fun us s1 hh => ?_) he hp hall
  obtain ⟨vs, H1, I1, r1, q1⟩ := hh
  refine thn (hkw.run pos pins s1 σ H1 (fun zs H2 => match zs with
    | [z] => ∃ a k, vs = [.ref a] ∧ z = .int k ∧ (-9223372036854775808 ≤ k ∧ k < 9223372036854775808) ∧
      ((∃ xs, SqL X.K H2 a xs ∧ R (ItS (fun H xs => SqL X.K H a xs) k) H2) ∨ ∃ xs, SqT X.K H2 a xs ∧ R (ItS (fun H xs => SqT X.K H a xs) k) H2)
    | _ => False) I1 q1) fun ws s2 hh => ?_
  obtain ⟨zs, H2, I2, r2, q2⟩ := hh
  obtain ⟨z, rfl⟩ : ∃ z, zs = [z] := by
    match zs, q2 with
    | [z], _ => exact ⟨z, rfl⟩
  obtain ⟨a, k, rfl, rfl, ⟨h0, h1⟩, q2⟩ := q2
  rw [hks]
  obtain ⟨u, rfl, ru⟩ := vals1 r1
  obtain ⟨v, rfl, rv⟩ := vals1 r2
  cases ru
  obtain ⟨t, rfl⟩ := rv
  rcases q2 with ⟨xs, hS, q⟩ | ⟨xs, hS, q⟩
  · exact enumS_go rfl (src_list X.K a) I2 hS h0 h1 q
  · exact enumS_go rfl (src_tup X.K a) I2 hS h0 h1 q
end
theorem walk_enumS {S : Hp → List V → Prop} {k : Int} {xs : List V} : Walk (ItS S k) xs.length (fun H => S H xs) (fun i H v H' => ∃ T x, v = .ref T ∧ H T = none ∧ H' = upd H T (.tup [.int (k + (i : Nat)), x]) ∧ xs[i]? = some x) :=
  ⟨fun i _ hi q => ⟨xs, xs[i], q, by simp [hi]⟩, fun _ q => ⟨xs, q, rfl⟩, fun _ _ _ _ _ q ⟨T, x, a, b, c, d⟩ => ⟨T, x, a, b, c, d xs q⟩⟩
/-! ### a list or a tuple walked -/
def SqS (K : PySem.W.Frag) (H : Hp) (a : Addr) (xs : List V) : Prop := SqL K H a xs ∨ SqT K H a xs
@[irreducible] def iSeq (K : PySem.W.Frag) (te : TE) : TI := fun σ H R => te σ H fun x H1 => ∃ a, x = .ref a ∧ ((∃ xs, SqL K H1 a xs ∧ R (Itl K a) H1) ∨ ∃ xs, SqT K H1 a xs ∧ R (Itt K a) H1)
theorem pi_seq {X : Cx} {tg e : Expr} {te : TE} (he : PE X e te) : PI X tg e (iSeq X.K te) := by
  unfold iSeq
  refine ⟨fun pins s σ H R I h => ?_⟩
  refine thn (he.run pins s σ H _ I h) fun v s1 hh => ?_
  obtain ⟨x, H1, I1, r1, a, e, q⟩ := hh
  subst e
  cases r1
  rcases q with ⟨xs, hq, q⟩ | ⟨xs, hq, q⟩
  · obtain ⟨its, rv, p, hz⟩ := I1.list hq
    refine wpAny_pyIter_list p.isList ⟨s1.heap.objs.size, [s1.heap.objs.size], _, _, H1, rfl, ?_, turn_list a _, ⟨_, Heap.get?_push_size _ rfl, rfl, rfl⟩, fun b hb => ?_, q⟩
    · exact I1.kept (t' := s1.toks) fun b o e => Heap.get?_push_of_some _ e
    · rw [List.mem_singleton.mp hb]
      exact I1.fpOk (Nat.le_refl _) (I1.hok.fresh (Nat.le_refl _))
  · obtain ⟨its, rv, p, hz⟩ := I1.tuple hq
    refine wpAny_pyIter_tuple (show s1.heap.IsTuple a its.toArray from p) ⟨s1.heap.objs.size, [s1.heap.objs.size], _, _, H1, rfl, ?_, turn_tuple a _, ⟨_, Heap.get?_push_size _ rfl, rfl, rfl⟩, fun b hb => ?_, q⟩
    · exact I1.kept (t' := s1.toks) fun b o e => Heap.get?_push_of_some _ e
    · rw [List.mem_singleton.mp hb]
      exact I1.fpOk (Nat.le_refl _) (I1.hok.fresh (Nat.le_refl _))
end Kb
/-! ### == of lists of ints -/
namespace Kb
open PySem PySem.Spec PyProof.Rows L2
section
variable {K : PySem.W.Frag} {H : Hp} {Q : VK} {a b : Addr} {xs ys : List Int}
theorem eqI_go (hx : SqL K H a (xs.map V.int)) (hy : SqL K H b (ys.map V.int)) (q : Q (.bl (decide (xs = ys))) H) : rEqU K (.ref a) (.ref b) H Q :=
  eqD_go (.lst hx (dp_ints xs)) (.lst hy (dp_ints ys)) (sh_ints.ok (by decide)) (sh_ints.ok (by decide)) (by rw [eqv_ints]; exact q)
theorem neI_go (hx : SqL K H a (xs.map V.int)) (hy : SqL K H b (ys.map V.int)) (q : Q (.bl (!decide (xs = ys))) H) : rNeU K (.ref a) (.ref b) H Q :=
  neD_go (.lst hx (dp_ints xs)) (.lst hy (dp_ints ys)) (sh_ints.ok (by decide)) (sh_ints.ok (by decide)) (by rw [eqv_ints]; exact q)
theorem eqI0_go (hx : SqL K H a (xs.map V.int)) (hy : SqL K H b []) (q : Q (.bl (decide (xs = []))) H) : rEqU K (.ref a) (.ref b) H Q := eqI_go (ys := []) hx hy q
theorem neI0_go (hx : SqL K H a (xs.map V.int)) (hy : SqL K H b []) (q : Q (.bl (!decide (xs = []))) H) : rNeU K (.ref a) (.ref b) H Q := neI_go (ys := []) hx hy q
end
theorem none_of {H H' : Hp} {p : Addr} (k : Kp [] H H') (h : H' p = none) : H p = none := k.none_of List.not_mem_nil h
theorem Kp.new {H H' : Hp} {p : Addr} {o : HO} (k : Kp [] H H') (h : H' p = none) : Kp [] H (upd H' p o) := Kp.upd_new' k h
end Kb
/-! ### a list or a tuple, whichever -/
namespace Kb
open PySem PySem.Spec PyProof.Rows L2
def Inn (H : Hp) (a : Addr) (xs : List V) : Prop := H a = some (.lst xs) ∨ H a = some (.tup xs)
theorem Inn.kp {H H' : Hp} {a : Addr} {xs : List V} (h : Inn H a xs) (k : Kp [] H H') : Inn H' a xs :=
  h.elim (fun e => .inl (k.at_ List.not_mem_nil e)) fun e => .inr (k.at_ List.not_mem_nil e)
theorem Inn.kpX {L : List Addr} {H H' : Hp} {a : Addr} {xs : List V} (h : Inn H a xs) (k : Kp L H H') (n : a ∉ L) : Inn H' a xs :=
  h.elim (fun e => .inl (k.at_ n e)) fun e => .inr (k.at_ n e)
section
variable {K : PySem.W.Frag} {H : Hp} {Q : VK} {a : Addr} {xs : List V}
theorem list_goI (h : Inn H a xs) (q : ∀ p, H p = none → Q (.ref p) (upd H p (.lst xs))) : rListU K [.ref a] H Q :=
  h.elim (fun e => list_goL (SqL.of e) q) fun e => list_goT (SqT.of e) q
theorem tuple_goI (h : Inn H a xs) (q1 : H a = some (.lst xs) → rTupleU K [.ref a] H Q) (q2 : H a = some (.tup xs) → rTupleU K [.ref a] H Q) : rTupleU K [.ref a] H Q := h.elim q1 q2
theorem seq_go {te : TE} {σ : L2.St} {R : It → Hp → Prop} (q : te σ H fun x H1 => ∃ a xs, x = .ref a ∧ Inn H1 a xs ∧ ∀ J G, Walk J xs.length G (YAt xs) → (∀ H', (H1 a = H' a) → G H') → R J H1) (m : ∀ {H} {p q : V → Hp → Prop}, (∀ x H, p x H → q x H) → te σ H p → te σ H q) : iSeq K te σ H R := by
  unfold iSeq
  refine m ?_ q
  rintro x H1 ⟨a, xs, rfl, e | e, k⟩
  · exact ⟨a, rfl, .inl ⟨xs, SqL.of e, k _ _ walk_list fun H' hh => SqL.of (hh ▸ e)⟩⟩
  · exact ⟨a, rfl, .inr ⟨xs, SqT.of e, k _ _ walk_tup fun H' hh => SqT.of (hh ▸ e)⟩⟩
theorem seqV_go {n : Nat} {σ : L2.St} {R : It → Hp → Prop} (e : σ[n]? = some (some (.ref a))) (h : Inn H a xs) (q : ∀ J G, Walk J xs.length G (YAt xs) → (∀ H', (H a = H' a) → G H') → R J H) : iSeq K (tVar n) σ H R :=
  seq_go ⟨_, e, a, xs, rfl, h, q⟩ fun {H p q} hh => fun ⟨x, e, z⟩ => ⟨x, e, hh _ _ z⟩
theorem enSV_go {n : Nat} {σ : L2.St} {k : Int} {R : It → Hp → Prop} (e : σ[n]? = some (some (.ref a))) (hk : -9223372036854775808 ≤ k ∧ k < 9223372036854775808) (h : Inn H a xs)
    (q : ∀ J G, Walk J xs.length G (fun i H v H' => ∃ T x, v = .ref T ∧ H T = none ∧ H' = upd H T (.tup [.int (k + (i : Nat)), x]) ∧ xs[i]? = some x) → (∀ H', (H a = H' a) → G H') → R J H) : iEnumS K (tCons (tVar n) tNil) (tC (.int k)) σ H R := by
  unfold iEnumS
  refine ⟨_, e, a, k, rfl, rfl, hk, ?_⟩
  rcases h with e | e
  · exact .inl ⟨xs, SqL.of e, q _ _ walk_enumS fun H' hh => SqL.of (hh ▸ e)⟩
  · exact .inr ⟨xs, SqT.of e, q _ _ walk_enumS fun H' hh => SqT.of (hh ▸ e)⟩
end
theorem gTup_go {K : PySem.W.Frag} {H : Hp} {a : Addr} {xs : List V} {n : Nat} {t : TGs} {σ : L2.St} {Q : L2.St → Hp → Prop} (h : SqT K H a xs) (hl : xs.length = n) (q : t xs σ H Q) : gTup K n t (.ref a) σ H Q := ⟨a, xs, rfl, h, hl, q⟩
theorem Inn.upd {H : Hp} {a p : Addr} {xs : List V} {o : HO} (h : Inn H a xs) (n : H p = none) : Inn (upd H p o) a xs := h.kp (Kp.refl.new n)
theorem Inn.same {H H' : Hp} {a : Addr} {xs : List V} (h : Inn H a xs) (k : Kp [] H H') : H a = H' a :=
  h.elim (fun e => e.trans (k.at_ List.not_mem_nil e).symm) fun e => e.trans (k.at_ List.not_mem_nil e).symm
theorem Inn.newNe {H : Hp} {a p : Addr} {xs : List V} (h : Inn H a xs) (n : H p = none) : a ≠ p := by
  rintro rfl
  rcases h with e | e <;> rw [e] at n <;> cases n
end Kb
/-! ### lists of lists of ints -/
namespace Kb
open PySem PySem.Spec PyProof.Rows L2
def LL (H : Hp) (us : List V) (pss : List (List Int)) : Prop := us.length = pss.length ∧
  ∀ (i : Nat) (v : V), us[i]? = some v → ∃ a ps, pss[i]? = some ps ∧ v = V.ref a ∧ H a = some (.lst (ps.map V.int))
theorem LL.dp {K : PySem.W.Frag} {H : Hp} : ∀ {us : List V} {pss : List (List Int)}, LL H us pss → DpAll K H us (pss.map fun ps => PyData.list (ps.map PyData.int))
  | [], [], _ => .nil
  | [], p :: pss, h => by cases h.1
  | u :: us, [], h => by cases h.1
  | u :: us, p :: pss, h => by
    obtain ⟨a, ps, h1, rfl, h3⟩ := h.2 0 u rfl
    cases h1
    refine .cons (.lst (SqL.of h3) (dp_ints p)) (LL.dp ⟨by have := h.1; simp at this; exact this, fun i v e => ?_⟩)
    obtain ⟨a, ps, h1, h2, h3⟩ := h.2 (i + 1) v (by simpa using e)
    exact ⟨a, ps, by simpa using h1, h2, h3⟩
theorem sh_ll {pss : List (List Int)} : Sh 2 (.list (pss.map fun ps => PyData.list (ps.map PyData.int))) := sh_lst (n := 1) fun d h => by
  obtain ⟨i, _, rfl⟩ := List.mem_map.mp h
  exact sh_ints
theorem LL.kp {M : List Addr} {H H' : Hp} {us : List V} {pss : List (List Int)} (h : LL H us pss) (k : Kp M H H') (m : ∀ a ∈ M, H a = none) : LL H' us pss := ⟨h.1, fun i v e => by
  obtain ⟨a, ps, h1, h2, h3⟩ := h.2 i v e
  exact ⟨a, ps, h1, h2, k.at_ (fun z => by rw [m a z] at h3; cases h3) h3⟩⟩
theorem LL.kp0 {H H' : Hp} {us : List V} {pss : List (List Int)} (h : LL H us pss) (k : Kp [] H H') : LL H' us pss := h.kp k fun a z => nomatch z
/-- two lists of lists that hold alike are not unlike -/
theorem neLL_go {K : PySem.W.Frag} {H : Hp} {Q : VK} {a b : Addr} {us vs : List V} {pss : List (List Int)} (ha : SqL K H a us) (hb : SqL K H b vs) (hu : LL H us pss) (hv : LL H vs pss) (q : Q (.bl false) H) : rNeU K (.ref a) (.ref b) H Q :=
  neD_go (.lst ha hu.dp) (.lst hb hv.dp) (sh_ll.ok (by decide)) (sh_ll.ok (by decide)) (by rw [SeqAt.eqv_refl _ sh_ll.1]; exact q)
end Kb
/-! ### a comprehension within a comprehension -/
namespace Kb
open PySem PySem.Spec PyProof.Rows L2
theorem lookup_rel {c : Str → NameKind → Bool} : ∀ (l : List (Str × NameKind)) (x : Str), (l.lookup x = some .cell ∨ l.lookup x = some .free) →
    ((l.map fun (n, k) => if c n k then (n, NameKind.cell) else (n, k)).lookup x = some .cell ∨ (l.map fun (n, k) => if c n k then (n, NameKind.cell) else (n, k)).lookup x = some .free)
  | [], x, h => by rcases h with h | h <;> cases h
  | (n, k) :: l, x, h => by
    rw [List.lookup_cons] at h
    rw [List.map_cons]
    by_cases e : (x == n) = true
    · rw [e] at h
      dsimp only at h ⊢
      by_cases hc : c n k = true
      · rw [if_pos hc, List.lookup_cons, e]
        exact .inl rfl
      · rw [if_neg hc, List.lookup_cons, e]
        exact h
    · have e : (x == n) = false := by simpa using e
      rw [e] at h
      have ih := lookup_rel (c := c) l x h
      dsimp only
      by_cases hc : c n k = true
      · rw [if_pos hc, List.lookup_cons, e]
        exact ih
      · rw [if_neg hc, List.lookup_cons, e]
        exact ih
theorem blkOk_in {N : List Str} {scope0 scope : Scope} {env : Env} {own : List (Str × Nat)} (h : blkC N scope0 scope own = true) : BlkOk N (relabel scope0 env) scope own := by
  have b := blkOk_by h
  exact ⟨b.kind, b.uniq, b.ix, fun y hy e => lookup_rel (c := fun n k => k == .free && env.scope.kind == .function && env.kindOf n == some .cell) scope0.names y.1 (b.free y hy e), b.own⟩
end Kb
/-! ### objects of an own class: attributes, methods, making -/
namespace Kb
open PySem PySem.Spec PyProof.Rows L2
@[irreducible] def rFldU (K : PySem.W.Frag) (f : Str) : V → Hp → VK → Prop := fun x H Q => ∃ a C dx fs v, x = .ref a ∧ H a = some (.ins C dx fs) ∧ Cls K C ∧ NoAttr K C f ∧ fs.lookup f = some v ∧ Q v H
@[irreducible] def rPutU (K : PySem.W.Frag) (f : Str) : V → V → Hp → (Hp → Prop) → Prop := fun x y H Q => ∃ a C dx fs, x = .ref a ∧ H a = some (.ins C dx fs) ∧ Cls K C ∧ NoAttr K C f ∧ fs.length < 1000 ∧ Q (upd H a (.ins C dx (putF f y fs)))
@[irreducible] def rAugU (K : PySem.W.Frag) (tv : TE) (rd : V → V → Hp → VK → Prop) (f : Str) : V → L2.St → Hp → (Hp → Prop) → Prop := fun x σ H Q => ∃ a C dx fs v, x = .ref a ∧ H a = some (.ins C dx fs) ∧ Cls K C ∧ NoAttr K C f ∧ fs.lookup f = some v ∧
  tv σ H fun y H2 => rd v y H2 fun z H3 => ∃ dx' fs', H3 a = some (.ins C dx' fs') ∧ fs'.length < 1000 ∧ Q (upd H3 a (.ins C dx' (putF f z fs')))
@[irreducible] def rRcvU (C : Addr) (m : Str) : V → Hp → Prop → Prop := fun x H Z => ∃ a dx fs, x = .ref a ∧ H a = some (.ins C dx fs) ∧ fs.lookup m = none ∧ Z
def sFldU (K : PySem.W.Frag) (ta tv : TE) (f : Str) : TS := fun D σ H => tv σ H fun y H1 => ta σ H1 fun x H2 => rPutU K f x y H2 fun H3 => D.nx σ H3
def sFldAugU (K : PySem.W.Frag) (ta tv : TE) (rd : V → V → Hp → VK → Prop) (f : Str) : TS := fun D σ H => ta σ H fun x H1 => rAugU K tv rd f x σ H1 fun H4 => D.nx σ H4
def tMethU (C : Addr) (m : Str) (sp : Sp) (E : XK) (ta : TE) (t : TA) : TE := fun σ H Q => ta σ H fun x H1 => rRcvU C m x H1 (t σ H1 fun vs H2 => sp (x :: vs) H2 Q E)
section
variable {X : Cx} {o e value : Expr} {f : Str} {pos pos' tpos : Pos} {ta tv : TE}
theorem pe_fldU (he : PE X e ta) (hb : attributeBase e f X.env (eval e X.env) = eval e X.env) : PE X (.Attribute e f pos) (tUn (rFldU X.K f) ta) := by
  unfold tUn rFldU
  exact pe_fld he hb
theorem ps_fldU (ha : PE X o ta) (hv : PE X value tv) (hs : swapsWith value (some (.Attribute o f pos')) pos.line X.env = pure false) : PS X (.Assign [.Attribute o f pos'] value pos) (sFldU X.K ta tv f) := by
  unfold sFldU rPutU
  exact ps_fld ha hv hs
theorem ps_fldaugU {op : Operator} {rd : V → V → Hp → VK → Prop} (ha : PE X o ta) (hv : PE X value tv) (hop : PIp X op rd) : PS X (.AugAssign (.Attribute o f tpos) op value pos) (sFldAugU X.K ta tv rd f) := by
  unfold sFldAugU rAugU
  exact ps_fldaug ha hv hop
end
section
variable {K : PySem.W.Frag} {H : Hp} {Q : VK} {a C dx : Addr} {fs fs' : List (Str × V)} {f m : Str} {v y : V}
theorem fld_go (h : H a = some (.ins C dx fs)) (c : Cls K C) (n : NoAttr K C f) (l : fs.lookup f = some v) (q : Q v H) : rFldU K f (.ref a) H Q := by
  unfold rFldU
  exact ⟨a, C, dx, fs, v, rfl, h, c, n, l, q⟩
theorem put_go {Q : Hp → Prop} (h : H a = some (.ins C dx fs)) (c : Cls K C) (n : NoAttr K C f) (hl : fs.length < 1000) (e : putF f y fs = fs') (q : Q (upd H a (.ins C dx fs'))) : rPutU K f (.ref a) y H Q := by
  subst e
  unfold rPutU
  exact ⟨a, C, dx, fs, rfl, h, c, n, hl, q⟩
theorem aug_go {Q : Hp → Prop} {tv : TE} {rd : V → V → Hp → VK → Prop} {σ : L2.St} (h : H a = some (.ins C dx fs)) (c : Cls K C) (n : NoAttr K C f) (l : fs.lookup f = some v)
    (q : tv σ H fun y H2 => rd v y H2 fun z H3 => ∃ dx' fs', H3 a = some (.ins C dx' fs') ∧ fs'.length < 1000 ∧ Q (upd H3 a (.ins C dx' (putF f z fs')))) : rAugU K tv rd f (.ref a) σ H Q := by
  unfold rAugU
  exact ⟨a, C, dx, fs, v, rfl, h, c, n, l, q⟩
theorem augE_go {Q : Hp → Prop} {z : V} (h : H a = some (.ins C dx fs)) (hl : fs.length < 1000) (e : putF f z fs = fs') (q : Q (upd H a (.ins C dx fs'))) : ∃ dx' fs', H a = some (.ins C dx' fs') ∧ fs'.length < 1000 ∧ Q (upd H a (.ins C dx' (putF f z fs'))) := by
  subst e
  exact ⟨dx, fs, h, hl, q⟩
theorem rcv_go {Z : Prop} (h : H a = some (.ins C dx fs)) (l : fs.lookup m = none) (z : Z) : rRcvU C m (.ref a) H Z := by
  unfold rRcvU
  exact ⟨a, dx, fs, rfl, h, l, z⟩
theorem lk_here {k : Str} {v : V} {r : List (Str × V)} : List.lookup k ((k, v) :: r) = some v := by
  have e : (k == k) = true := beq_self_eq_true k
  simp only [List.lookup, e]
theorem lk_past {k g : Str} {v : V} {r : List (Str × V)} {o : Option V} (h : (k == g) = false) (q : List.lookup k r = o) : List.lookup k ((g, v) :: r) = o := by
  simp only [List.lookup, h]
  exact q
theorem put_here {f : Str} {v x : V} {r : List (Str × V)} : putF f v ((f, x) :: r) = (f, v) :: r := if_pos rfl
theorem put_past {f g : Str} {v x : V} {r r' : List (Str × V)} (h : ¬ g = f) (q : putF f v r = r') : putF f v ((g, x) :: r) = (g, x) :: r' := by
  subst q
  exact if_neg h
theorem put_nil {f : Str} {v : V} : putF f v [] = [(f, v)] := rfl
end
/-- the method m of the class at C -/
def DefM (K : PySem.W.Frag) (C : Addr) (st : Stmt) (m qual : Str) : Prop := ∃ f fd, Meth K C m f ∧ Fun K m qual st f fd
structure CalM (P : Program) (w : World) (K : PySem.W.Frag) (mg : Str → Option Value) (base : Heap) (CX : CXT) (k : Nat) (C : Addr) (m : Str) (ps : List Str) (sp : Sp) : Prop where
  ex : ∃ f fd, Meth K C m f ∧ FnOk P w K mg base CX k f fd ps sp ∧ Binds K fd ps []
section
variable {P : Program} {w : World} {K : PySem.W.Frag} {mg : Str → Option Value} {base : Heap}
theorem CalM.of {C : Addr} {m qual : Str} {st : Stmt} {N ps : List Str} {k : Nat} {sp : Sp} (D : DefM K C st m qual) (S : FnScope N ps (defScope st))
    (hb : ∀ (kV doc pm : Value) (an : Option Addr) (cdv ct : Value) (us : List Value), us.length = ps.length → bindArgs (PySem.W.fnOf m qual (defArgs st) (defBody st) (defScope st) .none kV doc pm an cdv ct) ⟨us, []⟩ = pure (ps.zip us))
    (len : ∀ vs H Q E, sp vs H Q E → vs.length = ps.length)
    (hbody : ∀ (f : Addr) (cdv : Value) (A : Around) (outer : List Env) (s : Shared) (H : Hp) (vs : List V) (Q : VK) (E : XK), Room k (A.deeper (envOfC qual (defScope st) s.heap.objs.size f cdv)) → sp vs H Q E →
      ∃ t, PSs (cxOf CX0 P w K mg base N qual (defScope st) f cdv A outer s H E).nox (defBody st) t ∧ t { nx := fun _ H' => Q .non H', rt := Q } (start N vs) H) : CalM P w K mg base CX0 (k + 1) C m ps sp := by
  obtain ⟨f, fd, hm, F⟩ := D
  refine ⟨f, fd, hm, F.ok S len (hbody f), .all ?_⟩
  obtain ⟨oc, od, kV, doc, pm, an, cdv, ct, osl, rfl, lk, hcd⟩ := F.ex
  exact hb kV doc pm an cdv ct
end
section
variable {X : Cx} {CX : CXT} {k : Nat} {C : Addr} {ps : List Str} {sp : Sp} {E : XK} {x m : Str} {p pos apos : Pos} {e o : Expr} {es : List Expr} {ta : TE} {t : TA}
theorem pe_methM {pl : Sem Bool} (he : PE X o ta) (c : Cls X.K C) (M : CalM X.prog X.w X.K X.mg X.base CX k C m ps sp) (hr : Room k X.A) (hx : Passes CX X E) (ha : PA X (e :: es) t)
    (hst : starEach (e :: es) X.env = (false, eval e X.env) :: starEach es X.env := by rfl) (hpl : (backTo pos (starEach es X.env)).any (·.1) = false := by rfl)
    (ht : eval (.Call (.Attribute o m apos) (e :: es) [] pos) X.env = (do
      let ov ← eval o X.env
      standAt apos.atName
      let (f, first) ← holding [ov] (getMethod ov m pl)
      callWith pos f first (backTo pos (starEach (e :: es) X.env)) (backToKw pos (keywordEach [] X.env))) := by rfl) :
    PE X (.Call (.Attribute o m apos) (e :: es) [] pos) (tMethU C m sp E ta t) := by
  obtain ⟨f, fd, hm, F, hb⟩ := M.ex
  have := pe_meth (pos := pos) (apos := apos) (dvs := []) (E := E) he c hm F hr hb .nil hx ha hst hpl ht
  unfold tMethU rRcvU
  unfold tMeth at this
  simpa only [List.append_nil] using this
theorem pe_methM0 {pl : Sem Bool} (he : PE X o ta) (c : Cls X.K C) (M : CalM X.prog X.w X.K X.mg X.base CX k C m ps sp) (hr : Room k X.A) (hx : Passes CX X E)
    (ht : eval (.Call (.Attribute o m apos) [] [] pos) X.env = (do
      let ov ← eval o X.env
      standAt apos.atName
      let (f, first) ← holding [ov] (getMethod ov m pl)
      callWith pos f first (backTo pos (starEach [] X.env)) (backToKw pos (keywordEach [] X.env))) := by rfl) :
    PE X (.Call (.Attribute o m apos) [] [] pos) (tMethU C m sp E ta tNil) := by
  obtain ⟨f, fd, hm, F, hb⟩ := M.ex
  have := pe_meth0 (pos := pos) (apos := apos) (dvs := []) (E := E) he c hm F hr hb .nil hx ht
  unfold tMethU rRcvU
  unfold tMeth at this
  simpa only [List.append_nil] using this
theorem pe_makeM0 (hmk : PySem.W.makesIn X.K C = true) (hkc : PySem.W.keepIn X.K (.ref C) = true) (M : CalM X.prog X.w X.K X.mg X.base CX k C "__init__" ps sp) (hr : Room (k + 1) X.A) (hg : Gl X x) (hm : X.mg x = some (.ref C)) (hx : Passes CX X E)
    (hdb : (x == ("__debug__" : Str)) = false := by decide) : PE X (.Call (.Name x p) [] [] pos) (tMake C sp [] E tNil) := by
  obtain ⟨f, fd, hme, F, hb⟩ := M.ex
  exact pe_make0 ⟨hmk, hme.at_, hme.fn, hkc⟩ F hr hg hm hb .nil hx hdb
theorem pe_makeM (hmk : PySem.W.makesIn X.K C = true) (hkc : PySem.W.keepIn X.K (.ref C) = true) (M : CalM X.prog X.w X.K X.mg X.base CX k C "__init__" ps sp) (hr : Room (k + 1) X.A) (hg : Gl X x) (hm : X.mg x = some (.ref C)) (hx : Passes CX X E) (ha : PA X (e :: es) t)
    (hdb : (x == ("__debug__" : Str)) = false := by decide) (he : starEach (e :: es) X.env = (false, eval e X.env) :: starEach es X.env := by rfl) (hpl : (backTo pos (starEach es X.env)).any (·.1) = false := by rfl) :
    PE X (.Call (.Name x p) (e :: es) [] pos) (tMake C sp [] E t) := by
  obtain ⟨f, fd, hme, F, hb⟩ := M.ex
  exact pe_make ⟨hmk, hme.at_, hme.fn, hkc⟩ F hr hg hm hb .nil hx ha hdb he hpl
end
end Kb

open L2 Kb PySem
/-! steps by name: "ne" a ≠ b, "h" H a = some o, "c" a side condition, "l" a list that is read, "s" one step of a reading -/
local macro_rules | `(tactic| walk_at "ne") => `(tactic| first
  | assumption
  | (apply Ne.symm; assumption)
  | (refine' ne_of_none ?kh ?kn; (case kn => assumption); (case kh => walk_at "h"))
  | (refine' Ne.symm (ne_of_none ?kh ?kn); (case kn => assumption); (case kh => walk_at "h"))
  | fail)
local macro_rules | `(tactic| walk_at "nm") => `(tactic| first
  | exact List.not_mem_nil
  | (refine' nm_cons ?kn ?km; (case kn => walk_at "ne"); (case km => walk_at "nm"))
  | fail)
local macro_rules | `(tactic| walk_at "h") => `(tactic| first
  | assumption
  | exact upd_same
  | (refine' (upd_ne ?kn).trans ?kh; (case kn => walk_at "ne"); (case kh => walk_at "h"))
  | (refine' Kp.at_ ?kk ?kn ?kh; (case kk => assumption); (case kn => walk_at "nm"); (case kh => walk_at "h"))
  | (refine' Same.at_ ?kk ?kh; (case kk => assumption); (case kh => walk_at "h"))
  | fail)
local macro_rules | `(tactic| walk_at "c") => `(tactic| first
  | assumption
  | rfl
  | omega
  | decide
  | (simp only [List.length_cons, List.length_nil, List.length_map, List.length_append, List.length_range, List.length_replicate]; omega)
  | fail)
local macro_rules | `(tactic| walk_at "l") => `(tactic| first
  | assumption
  | exact SqL.of (by walk_at "h")
  | (refine Kp.sqL (by assumption) ?_ ?_ <;> first | assumption | walk_at "nm" | walk_at "l")
  | fail)
local macro_rules | `(tactic| walk_at "t") => `(tactic| first
  | assumption
  | exact SqT.of (by walk_at "h")
  | (refine Kp.sqT (by assumption) ?_ ?_ <;> first | assumption | walk_at "nm" | walk_at "t")
  | fail)
local macro_rules | `(tactic| walk_at "i") => `(tactic| first
  | assumption
  | exact .inl (by walk_at "h")
  | exact .inr (by walk_at "h")
  | (refine' Inn.kp (H := ?_) ?k1 ?k2; (case k2 => assumption); (case k1 => walk_at "i"))
  | (refine' Inn.upd ?k1 ?k2; (case k2 => assumption); (case k1 => walk_at "i"))
  | fail)
local macro_rules | `(tactic| walk_at "mem") => `(tactic| first
  | exact List.mem_cons_self
  | (refine' List.mem_cons_of_mem _ ?k1; (case k1 => walk_at "mem"))
  | fail)
local macro_rules | `(tactic| walk_at "kp") => `(tactic| first
  | assumption
  | exact Kp.refl
  | (refine' Kp.upd_in ?k1 ?k2; (case k2 => walk_at "mem"); (case k1 => walk_at "kp"))
  | (refine' Kp.upd_new ?k1 ?k2; (case k2 => assumption); (case k1 => walk_at "kp"))
  | (refine' Kp.upd_new' ?k1 ?k2; (case k2 => assumption); (case k1 => walk_at "kp"))
  | (refine' Kp.upd_new ?k1 ?k2; (case k2 => walk_at "no"); (case k1 => walk_at "kp"))
  | fail)
local macro_rules | `(tactic| walk_at "no") => `(tactic| first
  | assumption
  | (refine' none_of ?k1 ?k2; (case k2 => assumption); (case k1 => walk_at "kp"))
  | fail)
local macro_rules | `(tactic| walk_at "ki") => `(tactic| first
  | exact ki_NoneType_str
  | exact ki_NoneType_int
  | exact ki_NoneType_bool
  | exact ki_NoneType_list
  | exact ki_NoneType_tuple
  | exact ki_NoneType_dict
  | exact ki_bool_str
  | exact ki_bool_int
  | exact ki_bool_bool
  | exact ki_bool_list
  | exact ki_bool_tuple
  | exact ki_bool_dict
  | exact ki_int_str
  | exact ki_int_int
  | exact ki_int_bool
  | exact ki_int_list
  | exact ki_int_tuple
  | exact ki_int_dict
  | exact ki_str_str
  | exact ki_str_int
  | exact ki_str_bool
  | exact ki_str_list
  | exact ki_str_tuple
  | exact ki_str_dict
  | exact ki_list_str
  | exact ki_list_int
  | exact ki_list_bool
  | exact ki_list_list
  | exact ki_list_tuple
  | exact ki_list_dict
  | exact ki_tuple_str
  | exact ki_tuple_int
  | exact ki_tuple_bool
  | exact ki_tuple_list
  | exact ki_tuple_tuple
  | exact ki_tuple_dict
  | exact ki_dict_str
  | exact ki_dict_int
  | exact ki_dict_bool
  | exact ki_dict_list
  | exact ki_dict_tuple
  | exact ki_dict_dict
  | fail)
local macro_rules | `(tactic| walk_at "ty") => `(tactic| first
  | assumption
  | exact .base (.int _)
  | exact .base (.str _)
  | exact .base (.bl _)
  | exact .base .non
  | (refine' .base (.lst ?k1); (case k1 => walk_at "h"))
  | (refine' .base (.tup ?k1); (case k1 => walk_at "h"))
  | (refine' .base (.dK ?k1); (case k1 => walk_at "h"))
  | fail)
local macro_rules | `(tactic| walk_at "lk") => `(tactic| first
  | exact lk_here
  | (refine' lk_past ?k1 ?k2; (case k1 => decide +kernel); (case k2 => walk_at "lk"))
  | rfl
  | fail)
local macro_rules | `(tactic| walk_at "pf") => `(tactic| first
  | exact put_here
  | exact put_nil
  | (refine' put_past ?k1 ?k2; (case k1 => decide +kernel); (case k2 => walk_at "pf"))
  | fail)
local macro_rules | `(tactic| walk_at "s1") => `(tactic| first
  | (refine' add_go  ?kq)
  | (refine' sub_go  ?kq)
  | (refine' mul_goL ?k1 ?k2 ?kq; (case k1 => walk_at "c"); (case k2 => walk_at "c"))
  | (refine' mul_goR ?k1 ?k2 ?kq; (case k1 => walk_at "c"); (case k2 => walk_at "c"))
  | (refine' mod_go ?k1 ?kq; (case k1 => walk_at "c"))
  | (refine' div_go ?k1 ?k2 ?kq; (case k1 => walk_at "c"); (case k2 => walk_at "c"))
  | (refine' eq_go  ?kq)
  | (refine' ne_go  ?kq)
  | (refine' lt_go  ?kq)
  | (refine' le_go  ?kq)
  | (refine' gt_go  ?kq)
  | (refine' ge_go  ?kq)
  | (refine' ixL_go ?k1 ?k2 ?kq; (case k1 => walk_at "l"); (case k2 => rfl))
  | (refine' ixT_go ?k1 ?k2 ?kq; (case k1 => walk_at "t"); (case k2 => rfl))
  | (refine' set_go ?k1 ?k2 ?kq; (case k1 => walk_at "h"); (case k2 => rfl))
  | (refine' eqS_go  ?kq)
  | (refine' neS_go  ?kq)
  | (refine' eqB_go  ?kq)
  | (refine' neB_go  ?kq)
  | (refine' eqN_go  ?kq)
  | (refine' neI0_go ?k1 ?k2 ?kq; (case k1 => walk_at "l"); (case k2 => walk_at "l"))
  | (refine' eqI0_go ?k1 ?k2 ?kq; (case k1 => walk_at "l"); (case k2 => walk_at "l"))
  | (refine' neI_go ?k1 ?k2 ?kq; (case k1 => walk_at "l"); (case k2 => walk_at "l"))
  | (refine' eqI_go ?k1 ?k2 ?kq; (case k1 => walk_at "l"); (case k2 => walk_at "l"))
  | (refine' len_str ?k1 ?kq; (case k1 => walk_at "c"))
  | (refine' len_lst ?k1 ?kq; (case k1 => walk_at "l"))
  | (refine' len_tup ?k1 ?kq; (case k1 => walk_at "t"))
  | (refine' len_dK ?k1 ?kq; (case k1 => walk_at "h"))
  | (refine' isi_go ?k1 ?k2 ?kq; (case k1 => walk_at "ty"); (case k2 => walk_at "ki"))
  | (refine' isi2_go ?k1 ?k2 ?k3 ?k4 ?kq; (case k1 => walk_at "h"); (case k2 => walk_at "ty"); (case k3 => walk_at "ki"); (case k4 => walk_at "ki"))
  | (refine' int_go  ?kq)
  | (refine' intB_go  ?kq)
  | (refine' pow_go ?k1 ?k2 ?k3 ?kq; (case k1 => walk_at "c"); (case k2 => walk_at "c"); (case k3 => walk_at "c"))
  | (refine' neg_go  ?kq)
  | (refine' app_go ?k1 ?k2 ?kq; (case k1 => walk_at "h"); (case k2 => walk_at "c"))
  | (refine' addL_go ?k1 ?k2 ?k3 ?kq; (case k1 => walk_at "h"); (case k2 => walk_at "h"); (case k3 => walk_at "c"))
  | (refine' addLS_go ?k1 ?k2 ?k3 ?kq; (case k1 => walk_at "l"); (case k2 => walk_at "l"); (case k3 => walk_at "c"))
  | (refine' addS_go ?k1 ?kq; (case k1 => walk_at "c"))
  | (refine' rep_go ?k1 ?k2 ?k3 ?k4 ?kq; (case k1 => walk_at "h"); (case k2 => walk_at "c"); (case k3 => walk_at "c"); (case k4 => walk_at "c"))
  | (refine' iadd_go  ?kq)
  | (refine' iaddL_go ?k1 ?k2 ?k3 ?kq; (case k1 => walk_at "h"); (case k2 => walk_at "h"); (case k3 => walk_at "c"))
  | (refine' isub_go  ?kq)
  | (refine' imod_go ?k1 ?kq; (case k1 => walk_at "c"))
  | (refine' ltS_go  ?kq)
  | (refine' gtS_go  ?kq)
  | (refine' isN_go  ?kq)
  | (refine' notN_go  ?kq)
  | (refine' inC_go  ?kq)
  | (refine' notInC_go  ?kq)
  | (refine' list_goL ?k1 ?kq; (case k1 => walk_at "l"))
  | (refine' list_goT ?k1 ?kq; (case k1 => walk_at "t"))
  | (refine' tuple_goL ?k1 ?kq; (case k1 => walk_at "l"))
  | (refine' tuple_goT ?k1 ?kq; (case k1 => walk_at "t"))
  | (refine' list_goI ?k1 ?kq; (case k1 => walk_at "i"))
  | (refine' pop0_go ?k1 ?kq; (case k1 => walk_at "h"))
  | (refine' popE_go ?k1 ?kq; (case k1 => walk_at "h"))
  | (refine' slL_go ?k1 ?kq; (case k1 => walk_at "l"))
  | (refine' slS_go ?k1 ?kq; (case k1 => walk_at "c"))
  | (refine' ord_go  ?kq)
  | (refine' abs_go  ?kq)
  | (refine' fld_go ?k1 ?k2 ?k3 ?k4 ?kq; (case k1 => walk_at "h"); (case k2 => assumption); (case k3 => assumption); (case k4 => walk_at "lk"))
  | (refine' put_go ?k1 ?k2 ?k3 ?k4 ?k5 ?kq; (case k1 => walk_at "h"); (case k2 => assumption); (case k3 => assumption); (case k5 => walk_at "pf"); (case k4 => first | decide | (simp only [List.length_cons, List.length_nil]; decide)))
  | (refine' aug_go ?k1 ?k2 ?k3 ?k4 ?kq; (case k1 => walk_at "h"); (case k2 => assumption); (case k3 => assumption); (case k4 => walk_at "lk"))
  | (refine' rcv_go ?k1 ?k2 ?kq; (case k1 => walk_at "h"); (case k2 => walk_at "lk"))
  | fail)
local macro_rules | `(tactic| walk_at "s") => `(tactic| first
  | refine ⟨_, rfl, ?_⟩
  | refine iteD (fun _ => ?_) (fun _ => ?_)
  | refine iteN (fun _ => ?_) (fun _ => ?_)
  | refine iteT ?_
  | refine iteF ?_
  | walk_at "s1"
  | with_reducible refine st_nx ?_
  | (dsimp only; with_reducible refine st_nx ?_)
  | (refine' gTup_go ?k1 ?k2 ?kq; (case k1 => walk_at "t"); (case k2 => rfl))
  | refine And.intro (sz_of' (by walk_at "c")) ?_
  | refine And.intro (by walk_at "c") ?_
  | refine ⟨_, _, rfl, ?_⟩
  | refine ⟨_, _, _, rfl, ?_⟩
  | refine ⟨_, _, _, _, rfl, ?_⟩
  | refine ⟨.inl ⟨rfl, _, by walk_at "l"⟩, ?_⟩
  | refine ⟨⟨_, rfl⟩, ?_⟩
  | (refine fun (p : Addr) (np : _ = none) => ?_)
  | (refine fun (x dx : Addr) (nx : _ = none) (nd : _ = none) (ne : _ ≠ _) => ?_)
  | (refine' augE_go ?k1 ?k2 ?k3 ?kq; (case k1 => walk_at "h"); (case k3 => walk_at "pf"); (case k2 => first | decide | (simp only [List.length_cons, List.length_nil]; decide)))
  | refine iteB (fun _ => ?_) (fun _ => ?_)
  | (refine' seqV_go ?k1 ?k2 (fun J G w hG => ?kq); (case k1 => rfl); (case k2 => walk_at "i"))
  | (refine' enSV_go ?k1 ?k2 ?k3 (fun J G w hG => ?kq); (case k1 => rfl); (case k2 => exact ⟨by decide, by decide⟩); (case k3 => walk_at "i"))
  | fail)
local macro_rules | `(tactic| walk_at "go") => `(tactic| repeat' walk_at "s")
/-! ### own exception classes: made, raised, caught, looked at -/
namespace Kb
open PySem PySem.Spec PyProof.Rows L2
/-- where the top has what it calls x -/
def cAt (K : PySem.W.Frag) (x : Str) : Addr := match PySem.W.nsIn K mainGlobals x with
  | some (some (.ref a)) => a
  | _ => default
theorem cAt_of {K : PySem.W.Frag} {x : Str} {a : Addr} (h : PySem.W.nsIn K mainGlobals x = some (some (.ref a))) : cAt K x = a := by
  unfold cAt
  rw [h]
section
variable {P : Program} {w : World} {K : PySem.W.Frag} {mg : Str → Option Value} {base : Heap}
theorem Cal.ofX {x : Str} {st : Stmt} {N ps : List Str} {k : Nat} {sp : Sp} (D : Def K mg st x) (S : FnScope N ps (defScope st))
    (hb : ∀ (kV doc pm : Value) (an : Option Addr) (cdv ct : Value) (us : List Value), us.length = ps.length → bindArgs (PySem.W.fnOf x x (defArgs st) (defBody st) (defScope st) .none kV doc pm an cdv ct) ⟨us, []⟩ = pure (ps.zip us))
    (len : ∀ vs H Q E, sp vs H Q E → vs.length = ps.length)
    (hbody : ∀ (f : Addr) (cdv : Value) (A : Around) (outer : List Env) (s : Shared) (H : Hp) (vs : List V) (Q : VK) (E : XK), Room k (A.deeper (envOfC x (defScope st) s.heap.objs.size f cdv)) → sp vs H Q E →
      ∃ t, PSs (cxOf (L2.CX P w) P w K mg base N x (defScope st) f cdv A outer s H E) (defBody st) t ∧ t { nx := fun _ H' => Q .non H', rt := Q } (start N vs) H) : Cal P w K mg base (L2.CX P w) (k + 1) x ps sp := by
  obtain ⟨f, fd, hm, F⟩ := D
  refine ⟨f, fd, hm, F.okX S len (hbody f), F.kp, ?_, Fun.at_ F⟩
  obtain ⟨oc, od, kV, doc, pm, an, cdv, ct, osl, rfl, lk, hcd⟩ := F.ex
  exact hb kV doc pm an cdv ct
theorem CalM.ofX {C : Addr} {m qual : Str} {st : Stmt} {N ps : List Str} {k : Nat} {sp : Sp} (D : DefM K C st m qual) (S : FnScope N ps (defScope st))
    (hb : ∀ (kV doc pm : Value) (an : Option Addr) (cdv ct : Value) (us : List Value), us.length = ps.length → bindArgs (PySem.W.fnOf m qual (defArgs st) (defBody st) (defScope st) .none kV doc pm an cdv ct) ⟨us, []⟩ = pure (ps.zip us))
    (len : ∀ vs H Q E, sp vs H Q E → vs.length = ps.length)
    (hbody : ∀ (f : Addr) (cdv : Value) (A : Around) (outer : List Env) (s : Shared) (H : Hp) (vs : List V) (Q : VK) (E : XK), Room k (A.deeper (envOfC qual (defScope st) s.heap.objs.size f cdv)) → sp vs H Q E →
      ∃ t, PSs (cxOf (L2.CX P w) P w K mg base N qual (defScope st) f cdv A outer s H E) (defBody st) t ∧ t { nx := fun _ H' => Q .non H', rt := Q } (start N vs) H) : CalM P w K mg base (L2.CX P w) (k + 1) C m ps sp := by
  obtain ⟨f, fd, hm, F⟩ := D
  refine ⟨f, fd, hm, F.okX S len (hbody f), .all ?_⟩
  obtain ⟨oc, od, kV, doc, pm, an, cdv, ct, osl, rfl, lk, hcd⟩ := F.ex
  exact hb kV doc pm an cdv ct
/-- the __init__ of an exception's class -/
def DefI (K : PySem.W.Frag) (C : Addr) (st : Stmt) (qual : Str) : Prop := ∃ f fd, PySem.W.findIn K (.ref C) "__init__" = some (some (.ref f)) ∧ PySem.W.typeIn K (.ref f) = some (.type "function") ∧ Fun K "__init__" qual st f fd
structure CalI (P : Program) (w : World) (K : PySem.W.Frag) (mg : Str → Option Value) (base : Heap) (k : Nat) (C : Addr) (ps : List Str) (sp : Sp) : Prop where
  ex : ∃ f fd, PySem.W.findIn K (.ref C) "__init__" = some (some (.ref f)) ∧ PySem.W.typeIn K (.ref f) = some (.type "function") ∧ FnOk P w K mg base CX0 k f fd ps sp ∧ Binds K fd ps []
theorem CalI.of {C : Addr} {qual : Str} {st : Stmt} {N ps : List Str} {k : Nat} {sp : Sp} (D : DefI K C st qual) (S : FnScope N ps (defScope st))
    (hb : ∀ (kV doc pm : Value) (an : Option Addr) (cdv ct : Value) (us : List Value), us.length = ps.length → bindArgs (PySem.W.fnOf "__init__" qual (defArgs st) (defBody st) (defScope st) .none kV doc pm an cdv ct) ⟨us, []⟩ = pure (ps.zip us))
    (len : ∀ vs H Q E, sp vs H Q E → vs.length = ps.length)
    (hbody : ∀ (f : Addr) (cdv : Value) (A : Around) (outer : List Env) (s : Shared) (H : Hp) (vs : List V) (Q : VK) (E : XK), Room k (A.deeper (envOfC qual (defScope st) s.heap.objs.size f cdv)) → sp vs H Q E →
      ∃ t, PSs (cxOf CX0 P w K mg base N qual (defScope st) f cdv A outer s H E).nox (defBody st) t ∧ t { nx := fun _ H' => Q .non H', rt := Q } (start N vs) H) : CalI P w K mg base (k + 1) C ps sp := by
  obtain ⟨f, fd, h1, h2, F⟩ := D
  refine ⟨f, fd, h1, h2, F.ok S len (hbody f), .all ?_⟩
  obtain ⟨oc, od, kV, doc, pm, an, cdv, ct, osl, rfl, lk, hcd⟩ := F.ex
  exact hb kV doc pm an cdv ct
end
/-- what the written part says of an own exception's class -/
structure XCls (K : PySem.W.Frag) (C : Addr) : Prop where
  o : OexC K C
  xf : XfC K C
  cl : (PySem.W.clsIn K C).isSome = true
  ha : PySem.W.findIn K (.ref C) "__class__" = some (some (.builtin "object.__class__"))
  hn : PySem.W.specialIn K (.builtin "object.__class__") "__get__" = some (some (.builtin "getset_descriptor.__get__"))
  ht : PySem.W.takesIn K (.builtin "object.__class__") = some true
  hm : PySem.W.mroIn K C (.type "object") = some true
/-- an exception's __init__ whose fields are told by its arguments -/
@[irreducible] def spInit (C : Addr) (n : Nat) (fs : List V → List (Str × V)) : Sp := fun vs H Q _ => ∃ a ws, vs = .ref a :: ws ∧ ws.length = n ∧ H a = some (exo a C none) ∧ ∀ d, H d = none → d ≠ a → Q .non (upd (upd H d (exd d (fs ws))) a (exo a C (some d)))
theorem spInit_len {C : Addr} {n : Nat} {fs : List V → List (Str × V)} (vs : List V) (H : Hp) (Q : VK) (E : XK) (h : spInit C n fs vs H Q E) : vs.length = n + 1 := by
  unfold spInit at h
  obtain ⟨a, ws, rfl, h, _⟩ := h
  rw [List.length_cons, h]
theorem mkO_go {C : Addr} {n : Nat} {fs : List V → List (Str × V)} {vs : List V} {H : Hp} {Z : XK} (hn : vs.length = n) (hl : n ≤ 1000) (h : ∀ d, H d = none → Z (.ref C) (some d) (upd H d (.xd (fs vs)))) :
    vs.length ≤ 1000 ∧ ∀ a, H a = none → spInit C n fs (.ref a :: (vs ++ [])) (upd H a (exo a C none))
      (fun v H2 => v = .non ∧ ∃ (d : Addr) (fs : List (Str × V)), H2 a = some (exo a C (some d)) ∧ H2 d = some (exd d fs) ∧ H d = none ∧ Z (.ref C) (some d) (upd (del H2 a) d (.xd fs))) (fun _ _ _ => False) := by
  refine ⟨by omega, fun a ha => ?_⟩
  unfold spInit
  refine ⟨a, vs, by rw [List.append_nil], hn, upd_same, fun d hd da => ⟨rfl, d, fs vs, upd_same, (upd_ne da).trans upd_same, (upd_ne da).symm.trans hd, ?_⟩⟩
  have hd0 : H d = none := (upd_ne da).symm.trans hd
  have e : upd (del (upd (upd (upd H a (exo a C none)) d (exd d (fs vs))) a (exo a C (some d))) a) d (.xd (fs vs)) = upd H d (.xd (fs vs)) := by
    funext b
    by_cases hb : b = d
    · rw [hb, upd_same, upd_same]
    · rw [upd_ne hb, upd_ne hb]
      by_cases hba : b = a
      · rw [hba, del_same, ha]
      · rw [del_ne hba, upd_ne hba, upd_ne hb, upd_ne hba]
  rw [e]
  exact h d hd0
/-- raise x(e, ..) -/
def tRaiseI (C : Addr) (sp : Sp) (W : WX) (ta : TA) : TS := fun _ σ H => tMkO C sp [] ta σ H fun cls d H' => W cls d σ H'
section
variable {X : Cx} {C : Addr} {x : Str} {k : Nat} {ps : List Str} {sp : Sp} {W : WX} {e : Expr} {es : List Expr} {ta : TA} {p pos pos2 : Pos}
theorem ps_raiseI (hc : X.calm = true) (T : XCls X.K C) (M : CalI X.prog X.w X.K X.mg X.base k C ps sp) (hr : Room (k + 1) X.A) (tk : Takes X W) (hg : Gl X x) (hm : X.mg x = some (.ref C)) (ha : PA X (e :: es) ta)
    (hdb : (x == ("__debug__" : Str)) = false := by decide) (he : starEach (e :: es) X.env = (false, eval e X.env) :: starEach es X.env := by rfl) (hpl : (backTo pos (starEach es X.env)).any (·.1) = false := by rfl) :
    PS X (.Raise (some (.Call (.Name x p) (e :: es) [] pos)) none pos2) (tRaiseI C sp W ta) := by
  obtain ⟨f, fd, h1, h2, F, hb⟩ := M.ex
  exact ps_raise hc tk (pmk_oex T.o h1 h2 F hr hb .nil (fun _ _ _ _ _ _ _ h => h.elim) hg hm ha hdb he hpl)
end
/-- o.m(e, ..), what it raises wished for at the slots as they stand -/
def tMethUS (C : Addr) (m : Str) (sp : Sp) (E : L2.St → XK) (ta : TE) (t : TA) : TE := fun σ H Q => tMethU C m sp (E σ) ta t σ H Q
section
variable {X : Cx} {CX : CXT} {k : Nat} {C : Addr} {ps : List Str} {sp : Sp} {E : L2.St → XK} {x m : Str} {p pos apos : Pos} {e o : Expr} {es : List Expr} {ta : TE} {t : TA}
theorem pe_methMS {pl : Sem Bool} (he : PE X o ta) (c : Cls X.K C) (M : CalM X.prog X.w X.K X.mg X.base CX k C m ps sp) (hr : Room k X.A) (hx : ∀ σ, PassesAt CX X σ (E σ)) (ha : PA X (e :: es) t)
    (hst : starEach (e :: es) X.env = (false, eval e X.env) :: starEach es X.env := by rfl) (hpl : (backTo pos (starEach es X.env)).any (·.1) = false := by rfl)
    (ht : eval (.Call (.Attribute o m apos) (e :: es) [] pos) X.env = (do
      let ov ← eval o X.env
      standAt apos.atName
      let (f, first) ← holding [ov] (getMethod ov m pl)
      callWith pos f first (backTo pos (starEach (e :: es) X.env)) (backToKw pos (keywordEach [] X.env))) := by rfl) :
    PE X (.Call (.Attribute o m apos) (e :: es) [] pos) (tMethUS C m sp E ta t) := by
  obtain ⟨f, fd, hm, F, hb⟩ := M.ex
  refine ⟨fun pins s σ H Q I h => ?_⟩
  unfold tMethUS tMethU rRcvU at h
  refine PySem.W.methodCall_KW (pl := pl) (thn (he.run pins s σ H _ I h) fun u s1 ⟨x, H1, I1, rx, a, dx, fs, ex, ea, l, q⟩ => ?_) ht
  subst ex
  obtain rfl : u = Value.ref a := rx
  refine getmeth_ok I1 ea c hm l ?_
  refine PySem.W.callWith_K (first := [.ref a]) (h₀ := X.base) I.ok.mod.kin hm.kp (thn (ha.run pos pins s1 σ H1 _ I1 q) fun us s2 ⟨vs, H2, I2, r, q2⟩ => ⟨I2.kIn, ?_⟩) hst hpl
  exact run_fnS (us := .ref a :: us) (vs := .ref a :: vs) F hr hb (hx σ) I2 (.cons rfl r) q2
theorem pe_callCS (C : Cal X.prog X.w X.K X.mg X.base CX k x ps sp) (hr : Room k X.A) (hg : Gl X x) (hx : ∀ σ, PassesAt CX X σ (E σ))
    (ha : PA X (e :: es) t) (hdb : (x == ("__debug__" : Str)) = false := by decide) (he : starEach (e :: es) X.env = (false, eval e X.env) :: starEach es X.env := by rfl) (hpl : (backTo pos (starEach es X.env)).any (·.1) = false := by rfl) :
    PE X (.Call (.Name x p) (e :: es) [] pos) (tCallS sp E t) := by
  obtain ⟨f, fd, hm, F, hk, hb⟩ := C.bound
  exact pe_callS F hr hg hm hk hb hx ha hdb he hpl
end
/-- try: .. except c as n: .. -/
def tTryAs (K : PySem.W.Frag) (c : Value) (i : Nat) (tb : WX → TS) (ts : Addr → Value → Option Addr → TS) : TS := fun D σ H => tb (wAs K c i ts (fun _ _ _ _ => False) D) D σ H
theorem takes_none {X : Cx} : Takes X (fun _ _ _ _ => False) := fun _ _ h => by
  obtain ⟨_, _, _, _, _, _, _, _, _, _, _, _, _, _, _, _, z⟩ := h
  exact z.elim
/-- isinstance(e, c), e the caught exception with its dict -/
def rIsXd (K : PySem.W.Frag) (a : Addr) (cls : Value) (d : Option Addr) : List V → Hp → VK → Prop := fun xs H Q => ∃ (C : Addr) (c : V) (cv : Value) (b : Bool) (dd : Addr) (fs : List (Str × V)),
  xs = [.ref a, c] ∧ cls = .ref C ∧ d = some dd ∧ H dd = some (.xd fs) ∧ XCls K C ∧ (∀ u, RelV c u → u = cv) ∧ PySem.W.kitOne K (.ref C) cv = some b ∧ Q (.bl b) H
theorem call_isXd {X : Cx} {a : Addr} {oe : Obj} {cls : Value} {d : Option Addr} {pn : List (Addr × Obj)} (hz : Zc cls d oe) (hf : ∃ vs, oe.data = .fields vs) : CallR (X.suite a ((a, oe) :: pn)) (.builtin "isinstance") (rIsXd X.K a cls d) := by
  intro pins s σ H xs us Q I r h
  obtain ⟨C, c, cv, b, dd, fs, rfl, rfl, rfl, ea, T, hcv, e, q⟩ := h
  cases r with
  | cons rx rr =>
    cases rr with
    | cons rt rr =>
      cases rr
      cases rx
      have ec := hcv _ rt
      subst ec
      obtain ⟨hget, _⟩ := I.pin (a, oe) (List.mem_append.mpr (.inl List.mem_cons_self))
      obtain ⟨vs, hv⟩ := hf
      have hx : ObjOk X.prog X.w H s.heap dd (.xd fs) := I.hok dd _ ea
      obtain ⟨mA, hns, hr⟩ := hx
      obtain ⟨od, ho, hl⟩ := lookIn_ns hns
      have J : PySem.W.InstAt s.heap a oe C (some od) := ⟨hget, hz.1, by unfold PySem.W.notCls; rw [hv] <;> rfl, by rw [hz.2]; exact ho⟩
      exact PySem.W.kia_one (PySem.W.kitx_exc T.cl T.xf.ga T.xf.gg T.xf.exC T.ha T.hn T.ht T.hm) I.kIn J e (fun z => nomatch z) fun tk => ⟨.bl b, H, I.kept (t' := tk) fun _ _ z => z, rfl, q⟩
theorem pe_gref {X : Cx} {x : Str} {a : Addr} {pos : Pos} (hg : Gl X x) (hm : X.mg x = some (.ref a)) (hd : (x == ("__debug__" : Str)) = false := by decide) : PE X (.Name x pos) (tC (.ref a)) := pe_glob hg hm rfl hd
end Kb

/-! ### dicts: made of dicts, lists and tuples of pairs; emptied -/
namespace Kb
open PySem PySem.Spec PyProof.Rows L2
section
variable {X : Cx}
/-- a tuple whose object is told whole -/
def ptup (a : Addr) (xs : List V) : HO := .ext fun h => xs.length ≤ sizeLine ∧ ∃ (its : List Value) (n : Nat) (sl : Array (Option Value)), Vals xs its ∧ h.get? a = some ⟨.type "tuple", none, .seq its.toArray n, sl⟩
def PTup (K : PySem.W.Frag) (H : Hp) (a : Addr) (xs : List V) : Prop := H a = some (ptup a xs) ∨ ∃ (its : List Value) (n : Nat) (sl : Array (Option Value)), K.lookup a = some ⟨.type "tuple", none, .seq its.toArray n, sl⟩ ∧ xs.length ≤ sizeLine ∧ Vals xs its
theorem PTup.at_ {pins : List (Addr × Obj)} {σ : L2.St} {H : Hp} {s : Shared} {a : Addr} {xs : List V} (I : Inv X pins σ H s) (h : PTup X.K H a xs) : ∃ (its : List Value) (n : Nat) (sl : Array (Option Value)), Vals xs its ∧ xs.length ≤ sizeLine ∧ s.heap.get? a = some ⟨.type "tuple", none, .seq its.toArray n, sl⟩ := by
  rcases h with h | ⟨its, n, sl, l, z, r⟩
  · obtain ⟨⟨z, its, n, sl, r, e⟩, _, _⟩ := I.hok a _ h
    exact ⟨its, n, sl, r, z, e⟩
  · exact ⟨its, n, sl, r, z, I.kIn a _ l⟩
/-- pairs at hand: their keys and things -/
theorem prs_of {pins : List (Addr × Obj)} {σ : L2.St} {H : Hp} {s : Shared} (I : Inv X pins σ H s) : ∀ {ps : List Addr} {kvs : List (L2.Key × V)}, Paired (fun p kv => SqT X.K H p [kV kv.1, kv.2]) ps kvs →
    ∃ (prs : List (L2.Key × Value)) (pvs : List (Value × Value)), KV kvs prs ∧ prs.length = ps.length ∧ pvs.length = ps.length ∧ ∀ (j : Nat) (k v : Value), pvs[j]? = some (k, v) → ∃ (b : Addr) (c : L2.Key), ps[j]? = some b ∧ s.heap.IsTuple b #[k, v] ∧ prs[j]? = some (c, v) ∧ (mixKind X.prog X.w).is c k = true
  | _, _, .nil => ⟨[], [], .nil, rfl, rfl, fun j k v e => nomatch e⟩
  | _, _, .cons (a := p) (b := kv) h t => by
    obtain ⟨prs, pvs, r, l1, l2, g⟩ := prs_of I t
    obtain ⟨its, rv, ht, _⟩ := I.tuple h
    obtain ⟨u, y, rfl, ru, ry⟩ := vals2 rv
    refine ⟨(kv.1, y) :: prs, (u, y) :: pvs, .cons ⟨rfl, ry⟩ r, by rw [List.length_cons, List.length_cons, l1], by rw [List.length_cons, List.length_cons, l2], fun j k v e => ?_⟩
    rcases j with _ | j
    · cases e
      exact ⟨p, kv.1, rfl, ht, rfl, kV_is ru⟩
    · obtain ⟨b, c, e1, e2, e3, e4⟩ := g j k v e
      exact ⟨b, c, e1, e2, e3, e4⟩
/-- dict(x): of a dict, of a list or a tuple of pairs -/
@[irreducible] def rDictU (K : PySem.W.Frag) : List V → Hp → VK → Prop := fun xs H Q => ∃ a, xs = [.ref a] ∧ (
  (∃ kvs, Rd H a (.dK kvs) ∧ ∀ p, H p = none → Q (.ref p) (upd H p (.dK kvs))) ∨
  (∃ (ps : List Addr) (kvs : List (L2.Key × V)), SqL K H a (ps.map V.ref) ∧ Paired (fun p kv => SqT K H p [kV kv.1, kv.2]) ps kvs ∧ ∀ p, H p = none → Q (.ref p) (upd H p (.dK (mergeK [] kvs)))) ∨
  ∃ (ps : List Addr) (kvs : List (L2.Key × V)), PTup K H a (ps.map V.ref) ∧ Paired (fun p kv => SqT K H p [kV kv.1, kv.2]) ps kvs ∧ ∀ p, H p = none → Q (.ref p) (upd H p (.dK (mergeK [] kvs))))
theorem u_dict (hc : X.calm = true) : CallR X (.type "dict") (rDictU X.K) := by
  intro pins s σ H xs us Q I r h
  unfold rDictU at h
  obtain ⟨a, rfl, h⟩ := h
  rcases h with ⟨kvs, hr, q⟩ | ⟨ps, kvs, hl, hp, q⟩ | ⟨ps, kvs, ht, hp, q⟩
  · obtain ⟨u, rfl, rx⟩ := vals1 r
    cases rx
    exact d_copyOf I hr fun p s' n I' => ⟨.ref p, _, I', rfl, q p n⟩
  · exact call_dictP hc pins s σ H _ us Q I r ⟨a, ps, kvs, rfl, hl, hp, q⟩
  · obtain ⟨u, rfl, rx⟩ := vals1 r
    cases rx
    obtain ⟨its, n, sl, rv, z, e⟩ := PTup.at_ I ht
    have ei := refs_at rv
    subst ei
    obtain ⟨prs, pvs, rel, l1, l2, g⟩ := prs_of I hp
    rw [List.length_map] at z
    refine PySem.call_dict_pairs (knd := mixKind X.prog X.w) (kvs := prs) (PySem.PairArg.tuple a (ps.map Value.ref).toArray (fun j => (ps[j]?).getD 0) pvs) (I.ok.hd hc) ⟨⟨_, n, e, rfl, rfl, rfl⟩, by simp [l2], fun j k v ej => ?_⟩ ⟨by rw [l1, l2], fun j k v ej => ?_⟩ (by rw [l2]; exact z) fun h' tk hd' k => ?_
    · obtain ⟨b, c, e1, e2, e3, e4⟩ := g j k v ej
      exact ⟨by simp [e1], .inl (by show s.heap.IsTuple ((ps[j]?).getD 0) _; rw [e1]; exact e2)⟩
    · obtain ⟨b, c, e1, e2, e3, e4⟩ := g j k v ej
      exact ⟨c, e3, e4⟩
    · have hm : (s.heap.objs.size == sysModules) = false := beq_eq_false_iff_ne.mpr (Nat.ne_of_gt I.big)
      have hz : (mergeK [] kvs).length ≤ sizeLine := by
        refine Nat.le_trans (length_mergeK kvs []) ?_
        rw [List.length_nil, Nat.zero_add, rel.length, l1]
        exact z
      exact ⟨.ref s.heap.objs.size, upd H s.heap.objs.size (.dK (mergeK [] kvs)), I.laid (t' := tk) (fun b o e => k b o List.not_mem_nil e) (Nat.le_refl _) (show ObjOk X.prog X.w _ _ _ (.dK (mergeK [] kvs)) from ⟨hz, hm, merged [] prs, KV.merge rel .nil, hd'⟩), rfl, q _ (I.hok.fresh (Nat.le_refl _))⟩
/-- d.clear() -/
def rDClr : V → List V → Hp → VK → Prop := fun x xs H Q => ∃ a kvs, x = .ref a ∧ xs = [] ∧ H a = some (.dK kvs) ∧ Q .non (upd H a (.dK []))
theorem mt_dclear : MtR X "dict.clear" rDClr := by
  intro pins s σ H x xs v us Q I rx rxs h
  obtain ⟨a, kvs, rfl, rfl, ha, q⟩ := h
  cases rx
  cases rxs
  obtain ⟨z, hd, vs, rel, dd⟩ := dk_of I.hok ha
  refine call_meetsIn PySem.F.slot_dict_clear dd.typeIs PySem.F.entry_dict_clear (PySem.F.args_dict_clear_1 _) (meets_dict_clear (knd := mixKind X.prog X.w) a) ⟨vs, dd, by rw [← rel.length]; exact z, fun h' dd' hs => ?_⟩
  have he : ∃ o, h'.get? a = some o := let ⟨o, _, _, ho, _⟩ := dd'; ⟨o, ho⟩
  exact ⟨.non, _, d_write (t' := s.toks) I (by rw [ha]; exact True.intro) hs he (dk_new (Nat.zero_le _) hd .nil dd'), rfl, q⟩
end
end Kb
/-! ### tuple(d.items()) -/
namespace Kb
open PySem PySem.Spec PyProof.Rows L2
section
variable {prog : Program} {w : World} {KT : Type} [DecidableEq KT] {knd : KeyKind prog w KT} {A : Around} {E : Value → Shared → Prop} {s : Shared} {r d : Addr} {kvs : List (KT × Value)} {ep : Nat}
/-- what a dict's items are when they have been gone through -/
def Got (knd : KeyKind prog w KT) (kvs : List (KT × Value)) (s : Shared) (h' : Heap) (acc : Array Value) (as : List Addr) : Prop :=
  (∀ b o, s.heap.get? b = some o → h'.get? b = some o) ∧ (∃ c, h'.get? s.heap.objs.size = some { cls := .type "list", dict := none, data := .seq acc c, slots := #[] }) ∧ as.length = kvs.length ∧ PySem.W.KdxG knd kvs s.heap.objs.size h' as ∧ acc.toList = as.map Value.ref
theorem collect_items {Q : List Value → Shared → Prop} (hh : A.handled = none) (hv : s.heap.IsItemsView r d) (hm : s.heap.DictAt knd d kvs ep) (hn : kvs.length ≤ sizeLine)
    (q : ∀ (h' : Heap) (tk : Nat) (acc : Array Value) (as : List Addr), Got knd kvs s h' acc as → Q acc.toList { s with heap := h', toks := tk }) : wpAny (model prog w) A (collect (.ref r)) Q E s := by
  have hr : r < s.heap.objs.size := let ⟨_, ho, _⟩ := hv; Heap.lt_size ho
  have hd : d < s.heap.objs.size := hm.lt_size
  unfold collect
  refine wpAny_bind (wpAny_runValue (codeAny_builtin PySem.F.entry_proto_collect ?_))
  rw [Around.under_plainId PySem.F.plain_proto_collect _]
  show wpAny _ A.in1 (newList [] >>= fun l => again (.builtin "list.__iadd__" ⟨[l, .ref r], []⟩)) _ _ _
  refine wpAny_bind (wpAny_newObj_type ?_)
  refine wpAny_pure ⟨plainId_quiet PySem.F.plain_list_iadd _, codeAny_builtin PySem.F.entry_list_iadd ?_⟩
  rw [Around.under_plainId PySem.F.plain_list_iadd _]
  show wpAny _ A.in1 (Builtin.List.listExtendWith (.ref s.heap.objs.size) (.ref r) (.ref s.heap.objs.size)) _ _ _
  have hS : (s.heap.push { cls := .type "list", data := .seq ([] : List Value).toArray }).get? s.heap.objs.size = some { cls := .type "list", data := .seq #[] 0 } := Heap.get?_push_size _ rfl
  refine wpAny_mono (PySem.W.kdx_extend (knd := knd) (kvs := kvs) (ep := ep) (A := A) (R := fun rr s' => rr = .ok (.ret (.ref s.heap.objs.size)) ∧ ∃ (h' : Heap) (tk : Nat) (acc : Array Value) (as : List Addr), s' = { s with heap := h', toks := tk } ∧ Got knd kvs s h' acc as)
    (s := { s with heap := s.heap.push { cls := .type "list", data := .seq ([] : List Value).toArray } }) hh (let ⟨o, ho, x⟩ := hv; ⟨o, Heap.get?_push_of_some _ ho, x⟩) (hm.push _) _ (Nat.ne_of_gt hr) (Nat.ne_of_lt hd) _ 0 hS
    (fun h' tk acc c as hk hS' hl hG hacc => ⟨rfl, h', tk, acc, as, rfl, fun b o e => hk b o (Nat.ne_of_lt (Heap.lt_size e)) (Heap.get?_push_of_some _ e), ⟨c, hS'⟩, hl, hG.low (Nat.le_of_lt (Heap.lt_size hS)), hacc⟩) hn) (fun fin s' z => ?_) fun e s' z => ?_
  · cases fin with
    | done f =>
      obtain ⟨e, h', tk, acc, as, rfl, g⟩ := z
      cases e
      show wpAny _ A (load s.heap.objs.size >>= _) _ _ _
      obtain ⟨c, hS'⟩ := g.2.1
      exact wpAny_bind (wpAny_load hS' (wpAny_pure (q h' tk acc as g)))
    | again c' =>
      refine ⟨z.1, codeAny_mono z.2 fun rr s2 z2 => ?_⟩
      obtain ⟨rfl, h', tk, acc, as, rfl, g⟩ := z2
      show wpAny _ A (load s.heap.objs.size >>= _) _ _ _
      obtain ⟨c, hS'⟩ := g.2.1
      exact wpAny_bind (wpAny_load hS' (wpAny_pure (q h' tk acc as g)))
  · exact absurd z.1 (by simp)
theorem call_tuple_items {Q : Value → Shared → Prop} (hh : A.handled = none) (hv : s.heap.IsItemsView r d) (hm : s.heap.DictAt knd d kvs ep) (hn : kvs.length ≤ sizeLine)
    (q : ∀ (h' : Heap) (tk : Nat) (acc : Array Value) (as : List Addr), Got knd kvs s h' acc as → Q (.ref h'.objs.size) { s with heap := h'.push { cls := .type "tuple", data := .seq acc }, toks := tk }) : wpAny (model prog w) A (call (.type "tuple") [.ref r]) Q E s := by
  have code : codeAny (model prog w) A.in1 (.call (.builtin "tuple.__new__") ⟨[.type "tuple", .ref r], []⟩) (wants (fun obj s₁ => s₁.TypeIs obj "tuple" ∧ Q obj s₁) E) s := by
    refine codeAny_of_tree ?_
    show wpAny _ A.in1.in1 (do checkBuiltinCall "tuple.__new__" ⟨[.type "tuple", .ref r], []⟩; again (.builtin "tuple.__new__" ⟨[.type "tuple", .ref r], []⟩)) _ _ s
    refine wpAny_bind (wpAny_of_eq (PySem.F.newCall_tuple_1 _) (wpAny_pure ⟨plainId_quiet PySem.F.plain_tuple_new _, codeAny_builtin PySem.F.entry_tuple_new ?_⟩))
    rw [Around.under_plainId PySem.F.plain_tuple_new _]
    have hsub := sub_tuple_self
    have hinit := init_tuple_lookup
    have hmh := madeHere_tuple
    have hTI : s.TypeIs (.ref r) "dict_items" := hv.typeIs
    wp_walk using wpAny_typeOf hTI, collect_items (knd := knd) (kvs := kvs) (ep := ep) (A := A.in1.in1) hh hv hm hn
    intro h' tk acc as g
    show wpAny _ _ (Builtin.Tuple.tupleExact acc.toList.toArray >>= fun v => ret v) _ _ _
    unfold Builtin.Tuple.tupleExact
    have ea : acc.toList.toArray = acc := by simp
    have el : acc.size = kvs.length := by
      have := congrArg List.length g.2.2.2.2
      rw [List.length_map, g.2.2.1] at this
      simpa using this
    refine wpAny_bind (wpAny_newObj_type ?_ (by show acc.toList.toArray.size ≤ sizeLine; rw [ea, el]; exact hn))
    refine wpAny_pure ?_
    rw [ea]
    exact ⟨⟨_, Heap.get?_push_size _ rfl, rfl⟩, q h' tk acc as g⟩
  refine callType_codes (Q₁ := fun obj s₁ => s₁.TypeIs obj "tuple" ∧ Q obj s₁) PySem.F.called_tuple (PySem.F.typeCall_tuple_1 _) PySem.F.entry_object_init code fun obj s₁ h₁ => ?_
  exact ⟨h₁.1, PySem.F.args_object_init_2 obj _, object_init_meets PySem.F.called_tuple.init.lookup PySem.F.called_tuple.made (by decide) prog w A.in1 _ s₁ ⟨h₁.1, rfl, h₁.2⟩⟩
end
end Kb
namespace Kb
open PySem PySem.Spec PyProof.Rows L2
theorem paired_imp {α β : Type} {F G : α → β → Prop} (h : ∀ a b, F a b → G a b) : ∀ {xs : List α} {ys : List β}, Paired F xs ys → Paired G xs ys
  | _, _, .nil => .nil
  | _, _, .cons r t => .cons (h _ _ r) (paired_imp h t)
/-- the items of the dict d, laid as pairs -/
def rItemsT (x : V) (H : Hp) (Q : VK) : Prop := ∃ (d : Addr) (kvs : List (L2.Key × V)), x = .ref d ∧ H d = some (.dK kvs) ∧
  ∀ (H' : Hp) (p : Addr) (ts : List Addr), (∀ b o, H b = some o → H' b = some o) → H p = none → H' p = some (ptup p (ts.map V.ref)) → Paired (fun (t : Addr) (q : L2.Key × V) => H' t = some (.tup [kV q.1, q.2])) ts kvs → Q (.ref p) H'
def tTupItems (te : TE) : TE := fun σ H Q => te σ H fun x H1 => rItemsT x H1 Q
theorem pe_tupItems {X : Cx} {e : Expr} {te : TE} {p apos cpos pos : Pos} (hc : X.calm = true) (he : PE X e te) (hg : Gl X "tuple") (hm : X.mg "tuple" = none) (hbase : attributeBase e "items" X.env (eval e X.env) = eval e X.env := by rfl) (hline : (apos.endLine == cpos.line) = true := by rfl)
    (hs : starEach [.Call (.Attribute e "items" apos) [] [] cpos] X.env = (false, eval (.Call (.Attribute e "items" apos) [] [] cpos) X.env) :: starEach [] X.env := by rfl) :
    PE X (.Call (.Name "tuple" p) [.Call (.Attribute e "items" apos) [] [] cpos] [] pos) (tTupItems te) := by
  refine ⟨fun pins s σ H Q I hq => ?_⟩
  refine wpAny_Call_Name_kw (ld_blt I hg hm boot_tuple (PyProof.Rows.callWith_type1 ?_ hs rfl))
  rw [hs]
  refine Calls.spliced_cons (wpAny_Call_method (T := "dict") (id := "dict.items") hbase rfl hline PySem.F.plainAttrs_dict PySem.F.slot_dict_items PySem.F.type_dict_items (thn (he.run pins s σ H _ I hq) fun u s1 ⟨x, H1, I1, rx, d, kvs, ex, hd, q⟩ => ?_))
  subst ex
  obtain rfl : u = Value.ref d := rx
  obtain ⟨hz, h0, vs, kv, dd⟩ := I1.hok d _ hd
  obtain ⟨ep, da⟩ := dd.dictAt
  have lk : kvs.length = vs.length := Paired.length kv
  have I2 : Inv X pins σ H1 { s1 with heap := s1.heap.push { cls := .type "dict_items", data := .fields #[.ref d] } } := I1.kept (t' := s1.toks) fun b o q => Heap.get?_push_of_some _ q
  refine ⟨dd.typeIs, dd.mapOf.noDict, ?_⟩
  show wpAny _ _ (callWith cpos (.builtin "dict.items") [.ref d] [] []) _ _ s1
  refine method_meetsIn PySem.F.slot_dict_items PySem.F.entry_dict_items rfl (PySem.evalArgs_none ⟨rfl, dd.typeIs, PySem.F.args_dict_items_1 _, _, meets_dict_items (mixKind X.prog X.w) d h0, ⟨vs, dd⟩, ?_⟩)
  refine Calls.spliced_nil (call_tuple_items (knd := mixKind X.prog X.w) (kvs := vs) (ep := ep) (I1.ok.hd hc) ⟨_, Heap.get?_push_size _ rfl, rfl, rfl⟩ (da.push _) (by omega) fun h' tk acc as g => ?_)
  obtain ⟨hk, ⟨c, hS⟩, hl, hG, hacc⟩ := g
  obtain ⟨H', k1, k2, k3, k4, k5, k6, J⟩ := LiI.items_laid (tk := tk) I2 hz kv hk hS hl hG hacc
  have nT : H' h'.objs.size = none := J.hok.fresh (Nat.le_refl _)
  have up : ∀ b o, H' b = some o → upd H' h'.objs.size (ptup h'.objs.size (as.map V.ref)) b = some o := fun b o e => (upd_ne (ne_of_none e nT)).trans e
  have eT : (h'.push { cls := .type "tuple", data := .seq acc }).get? h'.objs.size = some ({ cls := .type "tuple", data := .seq acc } : Obj) := Heap.get?_push_size _ rfl
  refine ⟨.ref h'.objs.size, _, J.laid (t' := tk) (a := h'.objs.size) (o := ptup h'.objs.size (as.map V.ref)) (fun b o e => Heap.get?_push_of_some _ e) (Nat.le_refl _) ⟨⟨by rw [List.length_map]; omega, acc.toList, 0, #[], by rw [hacc]; exact LiI.vals_refs as, by rw [Array.toArray_toList]; exact eT⟩, ⟨_, eT⟩, fun h1 h2 ⟨z, its, n, sl, r, e⟩ st => ⟨z, its, n, sl, r, st _ e⟩⟩, rfl,
    q _ _ as (fun b o e => up b o (k1 b o e)) ?_ upd_same (paired_imp (fun t p z => up t _ z) k6)⟩
  cases z : H1 h'.objs.size with
  | none => rfl
  | some o =>
    rw [k1 _ _ z] at nT
    cases nT
end Kb

/-! ### own classes: __init__ with defaults, made by place and by name; a method called by names -/
namespace Kb
open PySem PySem.Spec PyProof.Rows L2
/-- the __init__ of the class at C, its defaults dvs -/
def DefD (K : PySem.W.Frag) (C : Addr) (st : Stmt) (qual : Str) (dvs : List V) : Prop := ∃ f fd, Meth K C "__init__" f ∧ FunD K "__init__" qual (defArgs st) (defBody st) (defScope st) dvs [] f fd
structure CalD (P : Program) (w : World) (K : PySem.W.Frag) (mg : Str → Option Value) (base : Heap) (CX : CXT) (k : Nat) (C : Addr) (st : Stmt) (qual : Str) (dvs : List V) (ps : List Str) (sp : Sp) : Prop where
  ex : ∃ f fd, Meth K C "__init__" f ∧ FnOk P w K mg base CX k f fd ps sp ∧ FunD K "__init__" qual (defArgs st) (defBody st) (defScope st) dvs [] f fd
theorem CalD.of {P : Program} {w : World} {K : PySem.W.Frag} {mg : Str → Option Value} {base : Heap} {C : Addr} {qual : Str} {st : Stmt} {dvs : List V} {N ps : List Str} {k : Nat} {sp : Sp} (D : DefD K C st qual dvs) (S : FnScope N ps (defScope st)) (len : ∀ vs H Q E, sp vs H Q E → vs.length = ps.length)
    (hbody : ∀ (f : Addr) (cdv : Value) (A : Around) (outer : List Env) (s : Shared) (H : Hp) (vs : List V) (Q : VK) (E : XK), Room k (A.deeper (envOfC qual (defScope st) s.heap.objs.size f cdv)) → sp vs H Q E →
      ∃ t, PSs (cxOf CX0 P w K mg base N qual (defScope st) f cdv A outer s H E) (defBody st) t ∧ t { nx := fun _ H' => Q .non H', rt := Q } (start N vs) H) : CalD P w K mg base CX0 (k + 1) C st qual dvs ps sp := by
  obtain ⟨f, fd, hm, F⟩ := D
  exact ⟨f, fd, hm, F.ok S len (hbody f), F⟩
/-- how a call with n things by place and some by name (ks) puts them: g -/
def Puts (st : Stmt) (qual : Str) (ps : List Str) (dn n : Nat) (ks : List Str) (g : {α : Type} → List α → List α → List α → List α) : Prop :=
  ∀ (T : Addr) (kV doc pm : Value) (an : Option Addr) (cdv ct : Value) (us its ws : List Value), us.length = n → its.length = dn → ws.length = ks.length →
    ∃ k, bindArgs (PySem.W.fnOf "__init__" qual (defArgs st) (defBody st) (defScope st) (.ref T) kV doc pm an cdv ct) ⟨us, ks.zip ws⟩ = seqItems? (.ref T) >>= k ∧ k (some its.toArray) = pure (ps.zip (g us its ws))
def Keeps3 (g : {α : Type} → List α → List α → List α → List α) : Prop := ∀ {vs ds zs : List V} {us its ws : List Value}, Vals vs us → Vals ds its → Vals zs ws → Vals (g vs ds zs) (g us its ws)
section
variable {X : Cx} {CX : CXT} {k n : Nat} {C : Addr} {st : Stmt} {qual : Str} {dvs : List V} {ps ks : List Str} {sp : Sp} {E : XK} {x : Str} {p pos : Pos} {e : Expr} {es : List Expr} {kws : List Keyword} {t tk : TA}
theorem pe_makeD (g : {α : Type} → List α → List α → List α → List α) (hmk : PySem.W.makesIn X.K C = true) (hkc : PySem.W.keepIn X.K (.ref C) = true) (M : CalD X.prog X.w X.K X.mg X.base CX k C st qual dvs ps sp) (hd : dvs ≠ []) (hrel : Keeps3 g) (hp : Puts st qual ps dvs.length (n + 1) ks g)
    (hr : Room (k + 1) X.A) (hg : Gl X x) (hm : X.mg x = some (.ref C)) (hx : Passes CX X E) (ha : PA X (e :: es) t) (hkw : PK X kws tk) (hall : (backToKw pos (keywordEach kws X.env)).all (·.1.isSome) = true := by rfl) (hks : (backToKw pos (keywordEach kws X.env)).filterMap (·.1) = ks := by rfl)
    (hdb : (x == ("__debug__" : Str)) = false := by decide) (he : starEach (e :: es) X.env = (false, eval e X.env) :: starEach es X.env := by rfl) (hpl : ((backTo pos (starEach (e :: es) X.env)).any (·.1) || (backToKw pos (keywordEach kws X.env)).any (·.1.isNone)) = false := by rfl) :
    PE X (.Call (.Name x p) (e :: es) kws pos) (tMakeN C n ks.length sp (fun vs zs => g vs dvs zs) E t tk) := by
  obtain ⟨f, fd, me, F, D⟩ := M.ex
  obtain ⟨its, hb⟩ := D.kbindsD (ps := ps) (n + 1) ks g hd hrel hp
  exact pe_makeN ⟨hmk, me.at_, me.fn, hkc⟩ F hr hg hm hb hx ha hkw hall hks hdb he hpl
theorem pe_makeD0 (g : {α : Type} → List α → List α → List α → List α) (hmk : PySem.W.makesIn X.K C = true) (hkc : PySem.W.keepIn X.K (.ref C) = true) (M : CalD X.prog X.w X.K X.mg X.base CX k C st qual dvs ps sp) (hd : dvs ≠ []) (hrel : Keeps3 g) (hp : Puts st qual ps dvs.length 1 ks g)
    (hr : Room (k + 1) X.A) (hg : Gl X x) (hm : X.mg x = some (.ref C)) (hx : Passes CX X E) (hkw : PK X kws tk) (hall : (backToKw pos (keywordEach kws X.env)).all (·.1.isSome) = true := by rfl) (hks : (backToKw pos (keywordEach kws X.env)).filterMap (·.1) = ks := by rfl)
    (hdb : (x == ("__debug__" : Str)) = false := by decide) (hpl : ((backTo pos (starEach [] X.env)).any (·.1) || (backToKw pos (keywordEach kws X.env)).any (·.1.isNone)) = false := by rfl) :
    PE X (.Call (.Name x p) [] kws pos) (tMakeN C 0 ks.length sp (fun vs zs => g vs dvs zs) E tNil tk) := by
  obtain ⟨f, fd, me, F, D⟩ := M.ex
  obtain ⟨its, hb⟩ := D.kbindsD (ps := ps) 1 ks g hd hrel hp
  exact pe_makeK0 ⟨hmk, me.at_, me.fn, hkc⟩ F hr hg hm hb hx hkw hall hks hdb hpl
end
/-- o.m(a = .., b = ..), all by name -/
def tMethK (C : Addr) (m : Str) (n : Nat) (sp : Sp) (gV : List V → List V → List V) (E : XK) (ta : TE) (tk : TA) : TE := fun σ H Q => ta σ H fun x H1 => rRcvU C m x H1 (tk σ H1 fun zs H2 => zs.length = n ∧ sp (gV [x] zs) H2 Q E)
/-- a method, told with its text -/
structure CalF (P : Program) (w : World) (K : PySem.W.Frag) (mg : Str → Option Value) (base : Heap) (CX : CXT) (k : Nat) (C : Addr) (st : Stmt) (m qual : Str) (ps : List Str) (sp : Sp) : Prop where
  ex : ∃ f fd, Meth K C m f ∧ FnOk P w K mg base CX k f fd ps sp ∧ Fun K m qual st f fd
section
variable {P : Program} {w : World} {K : PySem.W.Frag} {mg : Str → Option Value} {base : Heap} {C : Addr} {m qual : Str} {st : Stmt} {N ps : List Str} {k : Nat} {sp : Sp}
theorem CalF.of (D : DefM K C st m qual) (S : FnScope N ps (defScope st)) (len : ∀ vs H Q E, sp vs H Q E → vs.length = ps.length)
    (hbody : ∀ (f : Addr) (cdv : Value) (A : Around) (outer : List Env) (s : Shared) (H : Hp) (vs : List V) (Q : VK) (E : XK), Room k (A.deeper (envOfC qual (defScope st) s.heap.objs.size f cdv)) → sp vs H Q E →
      ∃ t, PSs (cxOf CX0 P w K mg base N qual (defScope st) f cdv A outer s H E).nox (defBody st) t ∧ t { nx := fun _ H' => Q .non H', rt := Q } (start N vs) H) : CalF P w K mg base CX0 (k + 1) C st m qual ps sp := by
  obtain ⟨f, fd, hm, F⟩ := D
  exact ⟨f, fd, hm, F.ok S len (hbody f), F⟩
theorem CalF.calM {CX : CXT} (M : CalF P w K mg base CX k C st m qual ps sp) (hb : ∀ (kV doc pm : Value) (an : Option Addr) (cdv ct : Value) (us : List Value), us.length = ps.length → bindArgs (PySem.W.fnOf m qual (defArgs st) (defBody st) (defScope st) .none kV doc pm an cdv ct) ⟨us, []⟩ = pure (ps.zip us)) : CalM P w K mg base CX k C m ps sp := by
  obtain ⟨f, fd, hm, F, D⟩ := M.ex
  exact ⟨f, fd, hm, F, D.binds hb⟩
end
theorem pe_methK {X : Cx} {CX : CXT} {k : Nat} {C : Addr} {st : Stmt} {ps ks : List Str} {sp : Sp} {E : XK} {m qual : Str} {pos apos : Pos} {o : Expr} {kws : List Keyword} {ta : TE} {tk : TA} {pl : Sem Bool} (g : {α : Type} → List α → List α → List α) (he : PE X o ta) (c : Cls X.K C) (M : CalF X.prog X.w X.K X.mg X.base CX k C st m qual ps sp)
    (hrel : ∀ {vs zs : List V} {us ws : List Value}, Vals vs us → Vals zs ws → Vals (g vs zs) (g us ws))
    (hp : ∀ (kV doc pm : Value) (an : Option Addr) (cdv ct : Value) (us ws : List Value), us.length = 1 → ws.length = ks.length → bindArgs (PySem.W.fnOf m qual (defArgs st) (defBody st) (defScope st) .none kV doc pm an cdv ct) ⟨us, ks.zip ws⟩ = pure (ps.zip (g us ws)))
    (hr : Room k X.A) (hx : Passes CX X E) (hkw : PK X kws tk) (hall : (backToKw pos (keywordEach kws X.env)).all (·.1.isSome) = true := by rfl) (hks : (backToKw pos (keywordEach kws X.env)).filterMap (·.1) = ks := by rfl)
    (hpl : ((backTo pos (starEach [] X.env)).any (·.1) || (backToKw pos (keywordEach kws X.env)).any (·.1.isNone)) = false := by rfl)
    (ht : eval (.Call (.Attribute o m apos) [] kws pos) X.env = (do
      let ov ← eval o X.env
      standAt apos.atName
      let (f, first) ← holding [ov] (getMethod ov m pl)
      callWith pos f first (backTo pos (starEach [] X.env)) (backToKw pos (keywordEach kws X.env))) := by rfl) :
    PE X (.Call (.Attribute o m apos) [] kws pos) (tMethK C m ks.length sp (fun vs zs => g vs zs) E ta tk) := by
  obtain ⟨f, fd, hm, F, F'⟩ := M.ex
  refine ⟨fun pins s σ H Q I h => ?_⟩
  unfold tMethK rRcvU at h
  refine PySem.W.methodCall_KW (pl := pl) (thn (he.run pins s σ H _ I h) fun u s1 ⟨x, H1, I1, rx, a, dx, fs, ex, ea, l, q⟩ => ?_) ht
  subst ex
  obtain rfl : u = Value.ref a := rx
  refine getmeth_ok I1 ea c hm l ?_
  refine PySem.W.callWith_KW0 (first := [.ref a]) (h₀ := X.base) I.ok.mod.kin hm.kp hall (thn (hkw.run pos pins s1 σ H1 _ I1 q) fun ws s2 ⟨zs, H2, I2, rz, l2, q2⟩ => ⟨I2.kIn, ?_⟩) hpl
  rw [hks]
  have hb : KBn X.K fd ps 1 ks (fun us ws => g us ws) (fun vs zs => g vs zs) := by
    obtain ⟨oc, od, kV, doc, pm, an, cdv, ct, osl, rfl, lk, hcd⟩ := F'.ex
    exact ⟨fun s us ws _ l1 l2 => .of_eq (hp kV doc pm an cdv ct us ws l1 l2), fun r1 r2 => hrel r1 r2⟩
  exact run_fnN (us := [.ref a]) (vs := [.ref a]) F hr hb hx I2 (.cons rfl .nil) rz rfl l2 q2
end Kb
/-! ### a thing of an own class is equal to itself -/
namespace Kb
open PySem PySem.Spec PyProof.Rows L2
section
variable {M : Model} {prog : Program} {w : World} {A : Around} {E : Value → Shared → Prop} {s : Shared} {K : PySem.W.Frag} {x C : Addr} {ox : Obj} {od : Option Obj}
theorem same_ref {R : Bool → Shared → Prop} (h : R true s) : wpAny M A (isSame (.ref x) (.ref x)) R E s := wpAny_of_eq (show isSame (.ref x) (.ref x) = pure true by simp [isSame]) h
theorem entry_same {Q : Fin → Shared → Prop} (q : Q (.done (.ret (.bool true))) s) : wpAny M A (Builtin.«object.__eq__» ⟨[.ref x, .ref x], []⟩) Q E s := by
  unfold Builtin.«object.__eq__»
  repeat (first | (with_reducible refine same_ref ?_) | wp_step)
  exact q
/-- == of the class at C is the one by identity -/
structure PlainEq (K : PySem.W.Frag) (C : Addr) : Prop where
  mro : PySem.W.mroIn K C (.type "object") = some true
  eq : PySem.W.findIn K (.ref C) "__eq__" = some (some (.builtin "object.__eq__"))
theorem rc_same (p : PlainEq K C) (hu : A.units < cLine) (X : K.In s.heap) (I : PySem.W.InstAt s.heap x ox C od) {Q : Value → Shared → Prop} (q : Q (.bool true) s) : wpAny (model prog w) A (richCompare .Eq (.ref x) (.ref x)) Q E s := by
  have one : wpAny (model prog w) A (tryCompare (.ref x) "__eq__" (.ref x)) (fun r s' => r = some (.bool true) ∧ s' = s) E s := by
    unfold tryCompare
    refine wpAny_bind (HN.ifBound_objEq X I p.eq (wpAny_call (codeAny_call_builtin F.cmp_object.eq.plain F.cmpEntry_eq (PySem.W.check_slot F.cmpKind_eq F.cmpSplit_eq (I.type.andThen (PySem.W.looks_mroIn X p.mro)) (F.cmpArgs_eq _ _) (entry_same ?_)))))
    exact wpAny_pure ⟨rfl, rfl⟩
  simp only [richCompare, cmpInfo_Eq, oneThing_ref]
  refine wpAny_holding (wpAny_bind (wpAny_cRoomFor hu (wpAny_bind (I.type.here (wpAny_bind (I.type.here ?_))))))
  simp only [bne_self_eq_false, Bool.false_eq_true, if_false, pure_bind]
  refine wpAny_bind (wpAny_mono one (fun r s1 z => ?_) fun _ _ e => e)
  obtain ⟨rfl, rfl⟩ := z
  exact wpAny_pure q
end
def rEqS (K : PySem.W.Frag) : R2 := fun x y H Q => rEqU K x y H Q ∨ ∃ a C dx fs, x = .ref a ∧ y = .ref a ∧ H a = some (.ins C dx fs) ∧ PlainEq K C ∧ Q (.bl true) H
theorem u_eqS {X : Cx} (hu : X.A.units + 64 < cLine) : OpR X (compareOp .Eq) (rEqS X.K) := by
  intro pins s σ H x y v u Q I rx ry h
  rcases h with h | ⟨a, C, dx, fs, rfl, rfl, ha, p, q⟩
  · exact u_eq hu pins s σ H x y v u Q I rx ry h
  · cases rx
    cases ry
    obtain ⟨mA, O, _⟩ := ins_get I.hok ha
    obtain ⟨od, J, _⟩ := O.look
    exact rc_same p (by omega) I.kIn J ⟨.bl true, H, I, rfl, q⟩
end Kb

/-! ### zip of three lists -/
namespace Kb
open PySem PySem.Spec PyProof.Rows L2
def Itz3 (K : PySem.W.Frag) (a b c : Addr) : It :=
  ⟨fun i H => ∃ (xs ys zs : List V) (x y z : V), (SqL K H a xs ∧ SqL K H b ys ∧ SqL K H c zs) ∧ xs[i]? = some x ∧ ys[i]? = some y ∧ zs[i]? = some z,
    fun i H v H' => ∃ T x y z, v = .ref T ∧ H T = none ∧ H' = upd H T (.tup [x, y, z]) ∧ (∀ l, SqL K H a l → l[i]? = some x) ∧ (∀ l, SqL K H b l → l[i]? = some y) ∧ ∀ l, SqL K H c l → l[i]? = some z,
    fun i H => ∃ xs ys zs : List V, (SqL K H a xs ∧ SqL K H b ys ∧ SqL K H c zs) ∧ xs.length = i ∧ ys.length = i ∧ zs.length = i⟩
section
variable {K : PySem.W.Frag} {a b c z TI TO i1 i2 i3 : Addr}
theorem turn_zip3 (S : ZipSep3 z TI TO i1 i2 i3 [i1, a] [i2, b] [i3, c]) (n1 : a ≠ i1) (n2 : b ≠ i2) (n3 : c ≠ i3) {P : Program} {w : World} {elts : List Expr} {kk : Nat} {tpos : Pos} :
    Turn P w K (.Tuple elts kk tpos) (Itz3 K a b c) [z, TI, TO, i1, i2, i3] z (fun i h => IsZip h z TI TO .none ∧ IsTupOf3 h TI (.ref i1) (.ref i2) (.ref i3) ∧ (∃ x y u, IsTupOf3 h TO x y u) ∧ h.IsListIter i1 a i ∧ h.IsListIter i2 b i ∧ h.IsListIter i3 c i) where
  mem := List.mem_cons_self
  obj := fun i h st q hq => by
    obtain ⟨hz, hTI, ⟨x, y, u, hTO⟩, ⟨o1, e1, _, d1⟩, ⟨o2, e2, _, d2⟩, ⟨o3, e3, _, d3⟩⟩ := st
    simp only [List.mem_cons, List.not_mem_nil, or_false] at hq
    rcases hq with rfl | rfl | rfl | rfl | rfl | rfl
    · exact ⟨_, hz, fun v q => nomatch q⟩
    · exact ⟨_, hTI, fun v q => nomatch q⟩
    · exact ⟨_, hTO, fun v q => nomatch q⟩
    · exact ⟨o1, e1, fun v q => by rw [d1] at q; cases q⟩
    · exact ⟨o2, e2, fun v q => by rw [d2] at q; cases q⟩
    · exact ⟨o3, e3, fun v q => by rw [d3] at q; cases q⟩
  keep := fun i h h' st k => by
    obtain ⟨hz, hTI, ⟨x, y, u, hTO⟩, h1, h2, h3⟩ := st
    exact ⟨k z (by simp) _ hz, k TI (by simp) _ hTI, ⟨x, y, u, k TO (by simp) _ hTO⟩, h1.at fun o q => k i1 (by simp) o q, h2.at fun o q => k i2 (by simp) o q, h3.at fun o q => k i3 (by simp) o q⟩
  item := fun X hP hw hK hc i pins s σ H E I hf st hg => by
    subst hP hw hK
    obtain ⟨xs, ys, zs, x, y, u, ⟨ha, hb, hcc⟩, hx, hy, hu⟩ := hg
    obtain ⟨its1, r1, p1, _⟩ := I.list ha
    obtain ⟨its2, r2, p2, _⟩ := I.list hb
    obtain ⟨its3, r3, p3, _⟩ := I.list hcc
    obtain ⟨x', gx, rx⟩ := r1.get hx
    obtain ⟨y', gy, ry⟩ := r2.get hy
    obtain ⟨u', gu, ru⟩ := r3.get hu
    have l1 := (List.getElem?_eq_some_iff.mp gx).1
    have l2 := (List.getElem?_eq_some_iff.mp gy).1
    have l3 := (List.getElem?_eq_some_iff.mp gu).1
    have hh : X.A.in1.handled = none := I.ok.hd hc
    obtain ⟨hz, hTI, hTO, h1, h2, h3⟩ := id st
    refine (GoesN.zip3 (elts := elts) (x1 := kk) (pos := tpos) S (Draws.list hh i1 a n1 its1.toArray) (Draws.list hh i2 b n2 its2.toArray) (Draws.list hh i3 c n3 its3.toArray)).goes i s _ E (by simp only [List.size_toArray]; omega) ⟨hz, hTI, hTO, ⟨h1, p1.isList⟩, ⟨h2, p2.isList⟩, ⟨h3, p3.isList⟩⟩ fun v h' tk hY st' hk _ => ?_
    obtain ⟨T, v1, v2, v3, rfl, hT, e1, e2, e3, hTup⟩ := hY
    have q1 : its1[i]? = some v1 := by simpa using e1
    have q2 : its2[i]? = some v2 := by simpa using e2
    have q3 : its3[i]? = some v3 := by simpa using e3
    rw [gx] at q1
    rw [gy] at q2
    rw [gu] at q3
    cases q1
    cases q2
    cases q3
    have hk' : ∀ q o, q ∉ [z, TI, TO, i1, i2, i3] → s.heap.get? q = some o → h'.get? q = some o := fun q o hq => hk q o fun m => hq (by
      simp only [List.mem_cons, List.not_mem_nil, or_false] at m ⊢
      rcases m with m | m | m | m | m
      · exact .inl m
      · exact .inr (.inr (.inl m))
      · exact .inr (.inr (.inr (.inl m)))
      · exact .inr (.inr (.inr (.inr (.inl m))))
      · exact .inr (.inr (.inr (.inr (.inr m)))))
    have new : ObjOk X.prog X.w (upd H T (.tup [x, y, u])) h' T (.tup [x, y, u]) := ⟨by show 3 ≤ sizeLine; decide, _, .cons rx (.cons ry (.cons ru .nil)), hTup⟩
    obtain ⟨a1, a2, a3, ⟨a4, _⟩, ⟨a5, _⟩, ⟨a6, _⟩⟩ := st'
    refine ⟨.ref T, _, I.turnedNew (t' := tk) hk' hf hT new, rfl, ⟨T, x, y, u, rfl, I.hok.fresh hT, rfl, fun l hl => by rw [I.list_inj hl ha]; exact hx, fun l hl => by rw [I.list_inj hl hb]; exact hy, fun l hl => by rw [I.list_inj hl hcc]; exact hu⟩, ⟨a1, a2, a3, a4, a5, a6⟩, fun q hq => ?_⟩
    have hlt : q < s.heap.objs.size := by
      obtain ⟨x0, y0, u0, hTO⟩ := hTO
      obtain ⟨o1, g1, _⟩ := h1
      obtain ⟨o2, g2, _⟩ := h2
      obtain ⟨o3, g3, _⟩ := h3
      simp only [List.mem_cons, List.not_mem_nil, or_false] at hq
      rcases hq with rfl | rfl | rfl | rfl | rfl | rfl
      · exact Heap.lt_size hz
      · exact Heap.lt_size hTI
      · exact Heap.lt_size hTO
      · exact Heap.lt_size g1
      · exact Heap.lt_size g2
      · exact Heap.lt_size g3
    rw [upd_ne (Nat.ne_of_lt (Nat.lt_of_lt_of_le hlt hT))]
    exact (hf q hq).1
  done := fun X hP hw hK hc i pins s σ H E I hf st hg => by
    subst hP hw hK
    obtain ⟨xs, ys, zs, ⟨ha, hb, hcc⟩, e1, e2, e3⟩ := hg
    obtain ⟨its1, r1, p1, _⟩ := I.list ha
    obtain ⟨its2, r2, p2, _⟩ := I.list hb
    obtain ⟨its3, r3, p3, _⟩ := I.list hcc
    have l1 := r1.length
    have l2 := r2.length
    have l3 := r3.length
    have hh : X.A.in1.handled = none := I.ok.hd hc
    obtain ⟨hz, hTI, hTO, h1, h2, h3⟩ := id st
    have ei : i = min (min its1.toArray.size its2.toArray.size) its3.toArray.size := by simp only [List.size_toArray]; omega
    have G := GoesN.zip3 (prog := X.prog) (w := X.w) (elts := elts) (x1 := kk) (pos := tpos) S (Draws.list hh i1 a n1 its1.toArray) (Draws.list hh i2 b n2 its2.toArray) (Draws.list hh i3 c n3 its3.toArray)
    refine G.stops s _ E (by rw [← ei]; exact ⟨hz, hTI, hTO, ⟨h1, p1.isList⟩, ⟨h2, p2.isList⟩, ⟨h3, p3.isList⟩⟩) fun h' tk hk _ => ?_
    refine I.turnedL (t' := tk) (ch := [z, TI, TO, i1, i2, i3]) (fun q o hq => hk q o fun m => hq ?_) hf
    simp only [List.mem_cons, List.not_mem_nil, or_false] at m ⊢
    rcases m with m | m | m | m | m
    · exact .inl m
    · exact .inr (.inr (.inl m))
    · exact .inr (.inr (.inr (.inl m)))
    · exact .inr (.inr (.inr (.inr (.inl m))))
    · exact .inr (.inr (.inr (.inr (.inr m))))
  self := fun A i s Q E st h => wpAny_pyIter_zip st.1 h
end
def iZip3 (K : PySem.W.Frag) (ta : TA) : TI := fun σ H R => ta σ H fun vs H1 => ∃ a b c xs ys zs, vs = [.ref a, .ref b, .ref c] ∧ SqL K H1 a xs ∧ SqL K H1 b ys ∧ SqL K H1 c zs ∧ R (Itz3 K a b c) H1
theorem pi_zip3 {X : Cx} {e e2 e3 : Expr} {ta : TA} {p pos tpos : Pos} {elts : List Expr} {kk : Nat} (hg : Gl X "zip") (hm : X.mg "zip" = none) (ha : PA X [e, e2, e3] ta)
    (hs : starEach [e, e2, e3] X.env = (false, eval e X.env) :: starEach [e2, e3] X.env := by rfl) (hpl : (backTo pos (starEach [e2, e3] X.env)).any (·.1) = false := by rfl) :
    PI X (.Tuple elts kk tpos) (.Call (.Name "zip" p) [e, e2, e3] [] pos) (iZip3 X.K ta) := by
  refine ⟨fun pins s σ H R I h => ?_⟩
  refine wpAny_Call_Name_kw (ld_blt I hg hm PyProof.Rows.boot_zip (PyProof.Rows.callWith_type1 (thn (ha.run pos pins s σ H _ I h) fun us s1 ⟨vs, H1, I1, r1, q1⟩ => ?_) hs hpl))
  obtain ⟨a, b, c, xs, ys, zs, rfl, hx, hy, hz, q⟩ := q1
  obtain ⟨ua, ub, uc, rfl, ra, rb, rc⟩ : ∃ ua ub uc, us = [ua, ub, uc] ∧ RelV (.ref a) ua ∧ RelV (.ref b) ub ∧ RelV (.ref c) uc := by
    cases r1 with
    | cons x1 r1 => cases r1 with
      | cons x2 r1 => cases r1 with
        | cons x3 r1 =>
          cases r1
          exact ⟨_, _, _, rfl, x1, x2, x3⟩
  cases ra
  cases rb
  cases rc
  obtain ⟨its1, r1, p1, _⟩ := I1.list hx
  obtain ⟨its2, r2, p2, _⟩ := I1.list hy
  obtain ⟨its3, r3, p3, _⟩ := I1.list hz
  have la : a < s1.heap.objs.size := p1.lt
  have lb : b < s1.heap.objs.size := p2.lt
  have lc : c < s1.heap.objs.size := p3.lt
  refine zip_begins3 (begins_list a its1.toArray) (begins_list b its2.toArray) (begins_list c its3.toArray) p1.isList p2.isList p3.isList fun h' hzz hTI hTO h1 h2 h3 hsz hk => wpAny_pyIter_zip hzz ?_
  have I2 : Inv X pins σ H1 { s1 with heap := h' } := I1.kept (t' := s1.toks) hk
  refine ⟨s1.heap.objs.size + 5, [s1.heap.objs.size + 5, s1.heap.objs.size + 3, s1.heap.objs.size + 4, s1.heap.objs.size, s1.heap.objs.size + 1, s1.heap.objs.size + 2], _, _, H1, rfl, I2,
    turn_zip3 (zip_sep3 (fun q m => by rw [List.mem_singleton.mp m]; exact la) (fun q m => by rw [List.mem_singleton.mp m]; exact lb) fun q m => by rw [List.mem_singleton.mp m]; exact lc) (Nat.ne_of_lt la) (Nat.ne_of_lt (Nat.lt_succ_of_lt lb)) (Nat.ne_of_lt (Nat.lt_succ_of_lt (Nat.lt_succ_of_lt lc))), ⟨hzz, hTI, ⟨_, _, _, hTO⟩, ⟨_, h1, rfl, rfl⟩, ⟨_, h2, rfl, rfl⟩, ⟨_, h3, rfl, rfl⟩⟩, fun q hq => ?_, q⟩
  have hle : s1.heap.objs.size ≤ q := by
    simp only [List.mem_cons, List.not_mem_nil, or_false] at hq
    rcases hq with rfl | rfl | rfl | rfl | rfl | rfl
    · exact Nat.le_add_right _ _
    · exact Nat.le_add_right _ _
    · exact Nat.le_add_right _ _
    · exact Nat.le_refl _
    · exact Nat.le_add_right _ _
    · exact Nat.le_add_right _ _
  exact I1.fpOk hle (I1.hok.fresh hle)
end Kb

/-! ### enumerate(d): the keys of a locked dict, counted from nought -/
namespace Kb
open PySem PySem.Spec PyProof.Rows L2
section
variable {prog : Program} {w : World} {A : Around} {E : Value → Shared → Prop} {s : Shared} {it d : Addr} {i n ep : Nat} {od : Obj} {es : Array DictEntry}
theorem nextOf_key {en : DictEntry} {Q : Value → Shared → Prop} (hit : s.heap.IsKeyIter it d i n ep) (hod : s.heap.get? d = some od) (hdd : od.data = .dict es ep) (hsz : es.size = n) (hx : es[i]? = some en)
    (q : ∀ h', h'.IsKeyIter it d (i + 1) n ep → Heap.SameBut it s.heap h' → Q en.key { s with heap := h' }) : wpAny (model prog w) A (Builtin.SmallTypes.nextOf (.ref it)) Q E s := by
  obtain ⟨oi, hi, ci, di⟩ := id hit
  have nx := F.slot_dict_keyiterator_next
  unfold Builtin.SmallTypes.nextOf
  refine wpAny_bind (wpAny_callSpecial?_slot (name := Str.ofString "__next__") hit.typeIs nx (wpAny_call_entry nx hit.typeIs F.entry_dict_keyiterator_next ?_ (F.args_dict_keyiterator_next_1 _)))
  obtain ⟨lt, rfl⟩ := Array.getElem?_eq_some_iff.mp hx
  have own : Builtin.Dict_items.ownsTuple "dict_keyiterator" = false := by decide
  refine wpAny_bind (wpAny_pure (wpAny_bind (wpAny_bind ?_)))
  first | refine wpAny_bind (wpAny_typeNameOfWhole_keyiter hit.typeIs (wpAny_pure (wpAny_bind (wpAny_fieldsOf hi di ?_)))) | refine wpAny_bind (wpAny_typeNameOf_keyiter hit.typeIs (wpAny_pure (wpAny_bind (wpAny_fieldsOf hi di ?_))))
  rw [own]
  simp only [Bool.false_eq_true, if_false]
  show wpAny _ _ (if (Value.ref d == Value.none) = true then _ else _) _ _ _
  have nn : ¬ ((Value.ref d == Value.none) = true) := Bool.false_ne_true
  rw [if_neg nn]
  refine wpAny_bind (wpAny_pure (wpAny_bind (wpAny_dictEntries hod hdd ?_)))
  rw [if_neg (by simp [hsz])]
  refine wpAny_bind (wpAny_pure (wpAny_bind (wpAny_dictEpoch hod hdd ?_)))
  rw [if_neg (by simp)]
  refine wpAny_pure ?_
  have h0 : ¬ ((i : Int) < 0) := by omega
  simp only [h0, if_false, Int.toNat_natCast, Array.getElem?_eq_getElem lt]
  refine wpAny_bind ?_
  first | refine wpAny_bind (wpAny_typeNameOfWhole_keyiter hit.typeIs (wpAny_pure (wpAny_bind (wpAny_isOneOf_keyiter hit.typeIs ?_)))) | refine wpAny_bind (wpAny_typeNameOf_keyiter hit.typeIs (wpAny_pure (wpAny_bind (wpAny_isOneOf_keyiter hit.typeIs ?_))))
  show wpAny _ _ (setField (.ref it) 1 (rawInt ((i : Int) + 1)) >>= _) _ _ _
  refine wpAny_bind (wpAny_setField hi di (by simp) ?_)
  have st : (s.heap.update it (Obj.mapFields (·.setIfInBounds 1 (rawInt ((i : Int) + 1))))).IsKeyIter it d (i + 1) n ep := ⟨_, Heap.get?_update_self _ hi (Obj.isFreed_of_fields (Obj.data_mapFields di _)), (Obj.cls_mapFields ..).trans ci, by rw [Obj.data_mapFields di]; simp [rawInt]⟩
  refine wpAny_bind (wpAny_holding (wpAny_bind (wpAny_isOneOf_keyiter (s := { s with heap := s.heap.update it (Obj.mapFields (·.setIfInBounds 1 (rawInt ((i : Int) + 1)))) }) st.typeIs ?_)))
  show wpAny _ _ (pure _) _ _ _
  exact wpAny_pure (wpAny_pure ⟨_, rfl, wpAny_pure (q _ st (Heap.SameBut.update ..))⟩)
theorem nextOf_key_end {Q : Value → Shared → Prop} (hh : A.handled = none) (hit : s.heap.IsKeyIter it d i n ep) (hod : s.heap.get? d = some od) (hdd : od.data = .dict es ep) (hsz : es.size = n) (hge : n ≤ i)
    (q : ∀ h' e, Heap.ExtBut it s.heap h' → (∃ o, h'.get? e = some o ∧ o.cls = .type "StopIteration") → E (.ref e) { s with heap := h' }) : wpAny (model prog w) A (Builtin.SmallTypes.nextOf (.ref it)) Q E s := by
  obtain ⟨oi, hi, ci, di⟩ := id hit
  have nx := F.slot_dict_keyiterator_next
  unfold Builtin.SmallTypes.nextOf
  refine wpAny_bind (wpAny_callSpecial?_slot (name := Str.ofString "__next__") hit.typeIs nx (wpAny_call_entry nx hit.typeIs F.entry_dict_keyiterator_next ?_ (F.args_dict_keyiterator_next_1 _)))
  have own : Builtin.Dict_items.ownsTuple "dict_keyiterator" = false := by decide
  refine wpAny_bind (wpAny_pure (wpAny_bind (wpAny_bind ?_)))
  first | refine wpAny_bind (wpAny_typeNameOfWhole_keyiter hit.typeIs (wpAny_pure (wpAny_bind (wpAny_fieldsOf hi di ?_)))) | refine wpAny_bind (wpAny_typeNameOf_keyiter hit.typeIs (wpAny_pure (wpAny_bind (wpAny_fieldsOf hi di ?_))))
  rw [own]
  simp only [Bool.false_eq_true, if_false]
  show wpAny _ _ (if (Value.ref d == Value.none) = true then _ else _) _ _ _
  have nn : ¬ ((Value.ref d == Value.none) = true) := Bool.false_ne_true
  rw [if_neg nn]
  refine wpAny_bind (wpAny_pure (wpAny_bind (wpAny_dictEntries hod hdd ?_)))
  rw [if_neg (by simp [hsz])]
  refine wpAny_bind (wpAny_pure (wpAny_bind (wpAny_dictEpoch hod hdd ?_)))
  rw [if_neg (by simp)]
  refine wpAny_pure ?_
  have h0 : ¬ ((i : Int) < 0) := by omega
  have gt : es.size ≤ i := by omega
  simp only [h0, if_false, Int.toNat_natCast, Array.getElem?_eq_none gt]
  refine wpAny_bind ?_
  first | refine wpAny_bind (wpAny_typeNameOfWhole_keyiter hit.typeIs (wpAny_pure ?_)) | refine wpAny_bind (wpAny_typeNameOf_keyiter hit.typeIs (wpAny_pure ?_))
  show wpAny _ _ (setField (.ref it) 0 .none >>= _) _ _ _
  refine wpAny_bind (wpAny_setField hi di (by simp) ?_)
  show wpAny _ _ (newExc (.type "StopIteration") [] >>= fun e => raiseNew e) _ _ _
  simp only [newExc, newTuple]
  refine wpAny_bind (wpAny_bind (wpAny_newObj_type (wpAny_bind (m := firstArgMember _ _) (wpAny_of_eq (a := Value.none) (by first | rfl | (simp only [firstArgMember]; rfl)) (wpAny_newObj_type ?_ (by size_fits)))) (by size_fits)))
  simp only [raiseNew]
  refine wpAny_bind (wpAny_handled ?_)
  rw [show A.in1.handled = none from hh]
  exact wpAny_bind (wpAny_pure (wpAny_throw (q _ _ (((Heap.SameBut.update ..).extBut.push _).push _) ⟨_, Heap.get?_push_size _ rfl, rfl⟩)))
end
/-- the dict whose object is od, walked by its keys -/
def KeysAr (d : Addr) (od : Obj) (es : Array DictEntry) (h : Heap) (its : Array Value) : Prop := h.get? d = some od ∧ its = es.map (·.key)
def KeysS (d : Addr) (od : Obj) (H : Hp) (xs : List V) : Prop := ∃ kvs, H d = some (.frz od (.dK kvs)) ∧ xs = kvs.map fun kv => kV kv.1
theorem keys_vals {P : Program} {w : World} : ∀ {es : List DictEntry} {kvs : List (L2.Key × V)} {vs : List (L2.Key × Value)}, Pairs (mixKind P w) es vs → KV kvs vs → Vals (kvs.map fun kv => kV kv.1) (es.map (·.key))
  | _, _, _, .nil, .nil => .nil
  | _, _, _, .cons h _ t, .cons r tr => by
    refine .cons ?_ (keys_vals t tr)
    obtain ⟨e, _⟩ := r
    dsimp only
    rw [e]
    exact relV_key h
theorem begins_keys {d : Addr} {od : Obj} {es : Array DictEntry} {ep : Nat} (hs : (d == sysModules) = false) (hx : od.ExactDict) (hd : od.data = .dict es ep) (its : Array Value) :
    Begins (.ref d) { cls := .type "dict_keyiterator", data := .fields #[.ref d, .int 0 0, .int es.size 0, .int ep 0] } fun h => KeysAr d od es h its where
  iter := fun prog w A E s Q hl h => iter_keys hs hl.1 hx hd h
  keeps := fun h h' x hk => ⟨hk d _ x.1, x.2⟩
  free := rfl
theorem src_keys (K : PySem.W.Frag) {d : Addr} {od : Obj} {es : Array DictEntry} {ep : Nat} (hs : (d == sysModules) = false) (hx : od.ExactDict) (hd : od.data = .dict es ep) :
    Src K d (KeysS d od) (KeysAr d od es) (fun h it i => h.IsKeyIter it d i es.size ep) { cls := .type "dict_keyiterator", data := .fields #[.ref d, .int 0 0, .int es.size 0, .int ep 0] } where
  get := fun hK I h => by
    obtain ⟨kvs, hf, rfl⟩ := h
    obtain ⟨_, hg, _, es', ep', vs, hdt, _, kv, o', es2, hm⟩ := I.frzK hf
    obtain ⟨ho, _, hdt', _, hp, _⟩ := hm
    rw [hg] at ho
    cases ho
    rw [(dict_ep hd hdt').1] at hp
    exact ⟨es.toList.map (·.key), keys_vals hp kv, hg, by rw [← Array.toList_map, Array.toArray_toList]⟩
  inj := fun hK I h h' => by
    obtain ⟨kvs, e, rfl⟩ := h
    obtain ⟨kvs', e', rfl⟩ := h'
    rw [e] at e'
    cases e'
    rfl
  lives := fun h => ⟨_, h.1⟩
  iobj := fun ⟨o, e, _, dt⟩ => ⟨o, e, fun v z => by rw [dt] at z; cases z⟩
  ikeep := fun st k => by
    obtain ⟨o, e, r⟩ := st
    exact ⟨o, k o e, r⟩
  draw := fun prog w A it its hh ne =>
    { live := fun _ _ st => let ⟨o, ho, _⟩ := st.1; ⟨o, ho⟩
      frame := fun _ _ _ st hk => ⟨let ⟨o, ho, r⟩ := st.1; ⟨o, hk it (by simp) o ho, r⟩, hk d (by simp) _ st.2.1, st.2.2⟩
      item := fun i s Q E hi st q => by
        obtain ⟨hi', ha, rfl⟩ := st
        have lt : i < es.size := by simpa using hi
        refine nextOf_key hi' ha hd rfl (Array.getElem?_eq_getElem lt) fun h' hit' hs' => ?_
        exact q _ h' s.toks (by simp [lt]) ⟨hit', (hs'.2 d ne).trans ha, rfl⟩ hs'
      done := fun s Q E st q => by
        obtain ⟨hi', ha, rfl⟩ := st
        exact nextOf_key_end hh hi' ha hd rfl (by simp) q }
  begin := fun its => begins_keys hs hx hd its
  first := fun e => ⟨_, e, rfl, rfl⟩
set_option maxHeartbeats 1000000 in
theorem meets_enum0 {v : Value} {o : Obj} {H : Heap → Prop} (B : Begins v o H) :
    Meets (Builtin.«enumerate.__new__» ⟨[.type "enumerate", v], []⟩) (fun _ R s => H s.heap ∧ R (.ok (.ret (.ref (s.heap.push o).objs.size))) { s with heap := (s.heap.push o).push { cls := .type "enumerate", data := .fields #[.none, .bool false, .ref s.heap.objs.size, rawInt 0, .none, .none] } }) :=
  .of_wp fun prog w A R s h => by
    obtain ⟨hp, g, d, tk, os⟩ := s; obtain ⟨h1, h⟩ := h
    have sb := sub_enumerate
    have q1 : ∀ {A' : Around} {E Q : Value → Shared → Prop}, Q (.ref hp.objs.size) ⟨hp.push o, g, d, tk, os⟩ → wpAny (model prog w) A' (pyIter v) Q E ⟨hp, g, d, tk, os⟩ := fun q => B.iter prog w _ _ ⟨hp, g, d, tk, os⟩ _ h1 q
    wp_walk using q1
    refine wpAny_stack_any fun st => wpAny_pure ?_
    split
    · rename_i c _ _ _ _ _
      cases (c == Value.type "enumerate") <;> (wp_walk using q1; exact ⟨_, rfl, h⟩)
    · wp_walk using q1
      exact ⟨_, rfl, h⟩
theorem enum0_begins {prog : Program} {w : World} {A : Around} {E : Value → Shared → Prop} {s : Shared} {v : Value} {o : Obj} {H : Heap → Prop} {Q : Value → Shared → Prop} (B : Begins v o H) (h1 : H s.heap)
    (h : ∀ h', IsEnum h' (s.heap.objs.size + 1) s.heap.objs.size 0 .none → h'.get? s.heap.objs.size = some o → h'.objs.size = s.heap.objs.size + 2 → (∀ b o, s.heap.get? b = some o → h'.get? b = some o) → Q (.ref (s.heap.objs.size + 1)) { s with heap := h' }) :
    wpAny (model prog w) A (PySem.call (.type "enumerate") [v]) Q E s := by
  refine callType_new F.called_enumerate (by decide) (F.typeCall_enumerate_1 _) (F.newCall_enumerate_1 _) (fun obj => F.args_object_init_2 obj _) F.entry_enumerate_new (meets_enum0 B) ⟨h1, ?_⟩
  have hz : (s.heap.push o).objs.size = s.heap.objs.size + 1 := Heap.size_push ..
  have he := Heap.get?_push_size (s.heap.push o) (o := { cls := .type "enumerate", data := .fields #[.none, .bool false, .ref s.heap.objs.size, rawInt 0, .none, .none] }) rfl
  show _ ∧ _
  rw [hz] at he ⊢
  exact ⟨⟨_, he, rfl⟩, h _ he (Heap.get?_push_of_some _ (Heap.get?_push_size _ B.free)) (by rw [Heap.size_push, hz]) fun b o x => Heap.get?_push_of_some _ (Heap.get?_push_of_some _ x)⟩
/-- enumerate(d) -/
@[irreducible] def iEnumD (te : TE) : TI := fun σ H R => te σ H fun x H1 => ∃ d od kvs, x = .ref d ∧ H1 d = some (.frz od (.dK kvs)) ∧ R (ItS (KeysS d od) 0) H1
theorem pi_enumD {X : Cx} {e : Expr} {te : TE} {p pos tpos : Pos} {elts : List Expr} {kk : Nat} (hg : Gl X "enumerate") (hm : X.mg "enumerate" = none) (he : PE X e te)
    (hs : starEach [e] X.env = (false, eval e X.env) :: starEach [] X.env := by rfl) :
    PI X (.Tuple elts kk tpos) (.Call (.Name "enumerate" p) [e] [] pos) (iEnumD te) := by
  unfold iEnumD
  refine ⟨fun pins s σ H R I h => ?_⟩
  refine wpAny_Call_Name_kw (ld_blt I hg hm boot_enumerate (PyProof.Rows.callWith_type1 ?_ hs rfl))
  rw [hs]
  refine Calls.spliced_cons (thn (he.run pins s σ H _ I h) fun u s1 ⟨x, H1, I1, rx, d, od, kvs, ex, hf, q⟩ => Calls.spliced_nil ?_)
  subst ex
  obtain rfl : u = Value.ref d := rx
  obtain ⟨hss, hgd, hx, es, ep, vs, hdt, hsz, kv, hm⟩ := I1.frzK hf
  have sr := src_keys X.K hss hx hdt
  obtain ⟨its, rv, hA⟩ := sr.get rfl I1 ⟨kvs, hf, rfl⟩
  refine enum0_begins (sr.begin its.toArray) hA fun h' hen hit hsz hk => wpAny_pyIter_enum hen ?_
  have I2 : Inv X pins σ H1 { s1 with heap := h' } := I1.kept (t' := s1.toks) hk
  have hlt := Heap.lt_size hgd
  refine ⟨s1.heap.objs.size + 1, [s1.heap.objs.size + 1, s1.heap.objs.size], _, _, H1, rfl, I2, turn_enumS sr 0 (s1.heap.objs.size + 1) s1.heap.objs.size (Nat.ne_of_lt hlt) (Nat.succ_ne_self _) (Nat.ne_of_gt (Nat.lt_succ_of_lt hlt)), ⟨⟨.none, by simpa using hen⟩, sr.first hit⟩, fun b hb => ?_, q⟩
  have hle : s1.heap.objs.size ≤ b := by
    rcases List.mem_cons.mp hb with z | z
    · rw [z]
      exact Nat.le_succ _
    · rw [List.mem_singleton.mp z]
      exact Nat.le_refl _
  exact I1.fpOk hle (I1.hok.fresh hle)
end Kb
namespace Kb
open PySem PySem.Spec PyProof.Rows L2
/-- list(d): the keys -/
@[irreducible] def rListD (K : PySem.W.Frag) : List V → Hp → VK → Prop := fun xs H Q => ∃ (a : Addr) (kvs : List (L2.Key × V)), xs = [.ref a] ∧ Rd H a (.dK kvs) ∧ ∀ p, H p = none → Q (.ref p) (upd H p (.lst (kvs.map fun kv => kV kv.1)))
theorem u_listD {X : Cx} (hc : X.calm = true) : CallR X (.type "list") (rListD X.K) := by unfold rListD; exact call_listD hc
section
variable {K : PySem.W.Frag} {H : Hp} {Q : VK} {a d : Addr} {x y v : V} {xs : List V} {kvs : List (L2.Key × V)} {k : L2.Key}
theorem listD_go (h : H a = some (.dK kvs)) (q : ∀ p, H p = none → Q (.ref p) (upd H p (.lst (kvs.map fun kv => kV kv.1)))) : rListD K [.ref a] H Q := by unfold rListD; exact ⟨a, kvs, rfl, .inl h, q⟩
theorem isiX_go {cv : Value} {n : String} {b : Bool} (ty : TyX K H x cv) (k : PySem.W.kitOne K cv (.type n) = some b) (q : Q (.bl b) H) : rIsiU K [x, .ty n] H Q := by unfold rIsiU; exact .inl ⟨x, .ty n, cv, .type n, b, rfl, .ty n, ty, k, q⟩
theorem eqS_no (h : rEqU K x y H Q) : rEqS K x y H Q := .inl h
theorem eqS_in {C dx : Addr} {fs : List (Str × V)} (h : H a = some (.ins C dx fs)) (p : PlainEq K C) (q : Q (.bl true) H) : rEqS K (.ref a) (.ref a) H Q := .inr ⟨a, C, dx, fs, rfl, rfl, h, p, q⟩
end
/-- a class whose things are equal by identity, and whose type is read plainly -/
structure PlainCls (K : PySem.W.Frag) (C : Addr) : Prop where
  cl : Cls K C
  eq : PlainEq K C
  ha : PySem.W.findIn K (.ref C) "__class__" = some (some (.builtin "object.__class__"))
  hn : PySem.W.specialIn K (.builtin "object.__class__") "__get__" = some (some (.builtin "getset_descriptor.__get__"))
  ht : PySem.W.takesIn K (.builtin "object.__class__") = some true
theorem PlainCls.ty {K : PySem.W.Frag} {C a dx : Addr} {H : Hp} {fs : List (Str × V)} (p : PlainCls K C) (h : H a = some (.ins C dx fs)) : TyX K H (.ref a) (.ref C) := .base (.ins h p.cl p.ha p.hn p.ht p.eq.mro)
end Kb

/-! ## k11: promises -/
namespace K11
open PySem PySem.Spec PyProof.Rows L2 Kb
/-- the well of the draws: three numbers; n draws at most have been made -/
def Wel (H : Hp) (S : Addr) (n : Nat) : Prop := ∃ d m c : Int, H S = some (.lst [.int d, .int m, .int c]) ∧ 0 ≤ m ∧ m < 2147483647 ∧ 0 ≤ c ∧ c ≤ n
@[irreducible] def sp_law_well (K : PySem.W.Frag) : Sp := fun vs H Q _ => ∃ i : Int, vs = [.int i] ∧ ∀ p o, H p = none → Wel (upd H p o) p 0 → Q (.ref p) (upd H p o)
@[irreducible] def sp_law_draw (K : PySem.W.Frag) : Sp := fun vs H Q _ => ∃ S m n, vs = [.ref S, .int m] ∧ Wel H S n ∧ n ≤ 1000000000 ∧ 0 < m ∧ m < 1073741824 ∧ ∀ H' r, Kp [S] H H' → Wel H' S (n + 1) → 0 ≤ r → r < m → Q (.int r) H'
@[irreducible] def sp_law_one (K : PySem.W.Frag) : Sp := fun vs H Q _ => ∃ S x n, vs = [.ref S, x] ∧ Wel H S n ∧ n ≤ 1000000000 ∧
  ((∃ a xs, x = .ref a ∧ SqL K H a xs ∧ xs ≠ [] ∧ xs.length ≤ 10000 ∧ a ≠ S ∧ ∀ H' y, Kp [S] H H' → Wel H' S (n + 1) → y ∈ xs → Q y H') ∨
   ∃ z, x = .str z ∧ 0 < z.length ∧ z.length ≤ 1000 ∧ ∀ H' c, Kp [S] H H' → Wel H' S (n + 1) → Q (.str ⟨#[c]⟩) H')
@[irreducible] def sp_law_text (K : PySem.W.Frag) : Sp := fun vs H Q _ => ∃ S n, ∃ lo hi : Int, vs = [.ref S, .int lo, .int hi] ∧ Wel H S n ∧ n ≤ 100000000 ∧ 0 ≤ lo ∧ lo ≤ hi ∧ hi ≤ 10 ∧ ∀ H' z, Kp [S] H H' → Wel H' S (n + 12) → z.length ≤ 10 → Q (.str z) H'
/-- numbers and None alone -/
def Flt (y : V) : Prop := (∃ i, y = .int i) ∨ y = .non
/-- a tuple, two deep at most, of numbers and None -/
def TupT (K : PySem.W.Frag) (H : Hp) (x : V) : Prop := ∃ a xs, x = .ref a ∧ SqT K H a xs ∧ ∀ y ∈ xs, Flt y ∨ ∃ b ys, y = .ref b ∧ SqT K H b ys ∧ ∀ z ∈ ys, Flt z
/-- a thing that is held: it is equal to itself -/
def Thg (K : PySem.W.Frag) (H : Hp) (x : V) : Prop := (∃ i, x = .int i) ∨ (∃ b, x = .bl b) ∨ (∃ z, x = .str z) ∨ x = .non ∨ TupT K H x ∨ ∃ a C dx fs, x = .ref a ∧ H a = some (.ins C dx fs) ∧ PlainCls K C ∧ PySem.W.kitOne K (.ref C) (.type "bool") = some false
@[irreducible] def sp_law_thing (K : PySem.W.Frag) : Sp := fun vs H Q _ => ∃ S L n xs, vs = [.ref S, .ref L] ∧ Wel H S n ∧ n ≤ 10000000 ∧ SqL K H L xs ∧ L ≠ S ∧ xs ≠ [] ∧ xs.length ≤ 10000 ∧ (∀ x ∈ xs, Thg K H x) ∧ ∀ H' y, Kp [S] H H' → Wel H' S (n + 20) → Thg K H' y → Q y H'
@[irreducible] def sp_law_alike (K : PySem.W.Frag) : Sp := fun vs H Q _ => ∃ x, vs = [x, x] ∧ Thg K H x ∧ Q (.bl true) H
def nodeF (z : Str) (F : Addr) : List (Str × V) := [("kind", .str z), ("fields", .ref F)]
/-- a node: its kind and its dict -/
def Nd (K : PySem.W.Frag) (H : Hp) (x : V) (z : Str) (F : Addr) (kvs : List (L2.Key × V)) : Prop := ∃ a dx, x = .ref a ∧ H a = some (.ins (cAt K "Node") dx [("kind", .str z), ("fields", .ref F)]) ∧ H F = some (.dK kvs)
@[irreducible] def sp_law_right (K : PySem.W.Frag) : Sp := fun vs H Q _ => ∃ x z D F kvs, vs = [x, .str z, .ref D] ∧ Nd K H x z F kvs ∧ H D = some (.dK kvs) ∧ D ≠ F ∧ (kvs.map (·.1)).Nodup ∧ (∀ kv ∈ kvs, Thg K H kv.2) ∧ kvs.length ≤ 1000 ∧ ∀ H', Kp [] H H' → Q (.bl true) H'
/-- what a dict is made of: a dict, a list or a tuple of pairs -/
def Arg (K : PySem.W.Frag) (H : Hp) (x : V) (kvs : List (L2.Key × V)) : Prop := ∃ a, x = .ref a ∧ (H a = some (.dK kvs) ∨
  (∃ (ps : List Addr) (kv0 : List (L2.Key × V)), SqL K H a (ps.map V.ref) ∧ Paired (fun p kv => SqT K H p [kV kv.1, kv.2]) ps kv0 ∧ kvs = mergeK [] kv0) ∨
  ∃ (ps : List Addr) (kv0 : List (L2.Key × V)), PTup K H a (ps.map V.ref) ∧ Paired (fun p kv => SqT K H p [kV kv.1, kv.2]) ps kv0 ∧ kvs = mergeK [] kv0)
def sp_Node___init__ (K : PySem.W.Frag) : Sp := fun vs H Q _ => ∃ a dx z x kvs, vs = [.ref a, .str z, x] ∧ H a = some (.ins (cAt K "Node") dx []) ∧ Arg K H x kvs ∧
  ∀ H' F, H F = none → Kp [a] H H' → H' a = some (.ins (cAt K "Node") dx [("kind", .str z), ("fields", .ref F)]) → H' F = some (.dK kvs) → Q .non H'
def sp_Node_put (K : PySem.W.Frag) : Sp := fun vs H Q _ => ∃ a dx z F kvs k v, vs = [.ref a, kV k, v] ∧ H a = some (.ins (cAt K "Node") dx [("kind", .str z), ("fields", .ref F)]) ∧ H F = some (.dK kvs) ∧ kvs.length < 16777216 ∧ Q .non (upd H F (.dK (putK kvs k v)))
def sp_Case___init__ (K : PySem.W.Frag) : Sp := fun vs H Q _ => ∃ a dx z v, vs = [.ref a, .str z, v] ∧ H a = some (.ins (cAt K "Case") dx []) ∧
  ∀ H', Kp [a] H H' → H' a = some (.ins (cAt K "Case") dx [("word", .str z), ("content", v)]) → Q .non H'
@[irreducible] def sp_law_made (K : PySem.W.Frag) : Sp := fun vs H Q _ => ∃ w z D kvs, vs = [.int w, .str z, .ref D] ∧ H D = some (.dK kvs) ∧ (kvs.map (·.1)).Nodup ∧ kvs.length ≤ 1000 ∧
  ∀ H' a F, Kp [] H H' → H a = none → H F = none → Nd K H' (.ref a) z F kvs → Q (.ref a) H'
@[irreducible] def sp_law_cases_right (K : PySem.W.Frag) : Sp := fun vs H Q _ => ∃ S n, vs = [.ref S] ∧ Wel H S n ∧ n ≤ 10000000 ∧ ∀ H', Kp [S] H H' → Q (.bl true) H'
def sp_law (K : PySem.W.Frag) : Sp := fun vs H Q _ => ∃ (a : Addr) (ns : List Int), vs = [.ref a] ∧ SqL K H a (ns.map V.int) ∧ ns.length ≤ 63 ∧ ∀ H', Q (.bl true) H'
end K11

namespace K11
open PySem PySem.Spec PyProof.Rows L2 Kb
structure OwnNode (K : PySem.W.Frag) (C : Addr) : Prop where
  cl : Cls K C
  n_kind : NoAttr K C "kind"
  n_fields : NoAttr K C "fields"
  eq : PlainCls K C
  kb : PySem.W.kitOne K (.ref C) (.type "bool") = some false
structure OwnCase (K : PySem.W.Frag) (C : Addr) : Prop where
  cl : Cls K C
  n_word : NoAttr K C "word"
  n_content : NoAttr K C "content"
  eq : PlainCls K C
  kb : PySem.W.kitOne K (.ref C) (.type "bool") = some false
structure Own (K : PySem.W.Frag) (C : Addr) : Prop where
  Node : OwnNode K (cAt K "Node")
  Case : OwnCase K (cAt K "Case")
  nil : ∃ (n : Nat) (sl : Array (Option Value)), K.lookup C = some ⟨.type "tuple", none, .seq #[] n, sl⟩
def t_Node___init__ (K : PySem.W.Frag) (C : Addr) : TS :=
 (tSeq (sFldU K (tVar 0) (tVar 1) "kind")
 (sFldU K (tVar 0) (tCB (rDictU K) (tCons (tVar 2) tNil)) "fields"))

def t_Node_put (K : PySem.W.Frag) (C : Addr) : TS :=
 (sDPut (tUn (rFldU K "fields") (tVar 0)) (tVar 1) (tVar 2))

def t_Case___init__ (K : PySem.W.Frag) (C : Addr) : TS :=
 (tSeq (sFldU K (tVar 0) (tVar 1) "word")
 (sFldU K (tVar 0) (tVar 2) "content"))

def t_law_well (K : PySem.W.Frag) : TS :=
 (tRet (tLst (tCons (tOp (rMulU K) (tVar 0) (tCB rIntU (tCons (tOp rGeU (tVar 0) (tOp rPowU (tC (.int 10)) (tC (.int 18)))) tNil))) (tCons (tOp rModU (tVar 0) (tC (.int 2147483647))) (tCons (tC (.int 0)) tNil)))))

def t_law_draw (K : PySem.W.Frag) : TS :=
 (tSeq (tIfS (tTest (tOp rGtU (tOp (rIxU K) (tVar 0) (tC (.int 0))) (tC (.int 0))))
 (tSeq (tAsg (tOp rModU (tOp (rIxU K) (tVar 0) (tC (.int 0))) (tVar 1)) (gName 2))
 (tSeq (tAsg (tOp rDivU (tOp (rIxU K) (tVar 0) (tC (.int 0))) (tVar 1)) (gSub (tVar 0) (tC (.int 0)) rSetU))
 (tRet (tVar 2))))
 tNext)
 (tSeq (tAsg (tOp (rAddU K) (tOp (rIxU K) (tVar 0) (tC (.int 2))) (tC (.int 1))) (gSub (tVar 0) (tC (.int 2)) rSetU))
 (tSeq (tAsg (tOp (rIxU K) (tLst (tCons (tC (.int 2147483647)) (tCons (tC (.int 2147483629)) (tCons (tC (.int 2147483587)) (tCons (tC (.int 2147483579)) (tCons (tC (.int 2147483563)) tNil)))))) (tOp rModU (tOp (rIxU K) (tVar 0) (tC (.int 2))) (tC (.int 5)))) (gName 3))
 (tSeq (tAsg (tOp rModU (tOp rPowU (tOp (rAddU K) (tOp (rAddU K) (tOp (rIxU K) (tVar 0) (tC (.int 1))) (tOp (rMulU K) (tC (.int 7919)) (tOp (rIxU K) (tVar 0) (tC (.int 2))))) (tC (.int 3))) (tC (.int 5))) (tVar 3)) (gName 4))
 (tSeq (tAsg (tOp rModU (tOp (rMulU K) (tOp (rAddU K) (tVar 4) (tOp (rIxU K) (tVar 0) (tC (.int 2)))) (tOp (rAddU K) (tOp rDivU (tVar 4) (tC (.int 1013))) (tC (.int 69621)))) (tVar 3)) (gName 4))
 (tRet (tOp rModU (tOp rDivU (tVar 4) (tC (.int 11))) (tVar 1))))))))

def t_law_one (K : PySem.W.Frag) : TS :=
 (tRet (tOp (rIxU K) (tVar 1) (tCall (sp_law_draw K) [] E0 (tCons (tVar 0) (tCons (tCB (rLenU K) (tCons (tVar 1) tNil)) tNil)))))

def t_law_text (K : PySem.W.Frag) : TS :=
 (tSeq (tAsg (tC (.str (PySem.Str.ofString "abcdefghijklmnopqrstuvwxyz"))) (gName 3))
 (tRet (tM1 (rJoin K) (tC (.str (PySem.Str.ofString ""))) (tLc (iRng1 (tCons (tOp (rAddU K) (tVar 1) (tCall (sp_law_draw K) [] E0 (tCons (tVar 0) (tCons (tOp (rAddU K) (tOp rSubU (tVar 2) (tVar 1)) (tC (.int 1))) tNil)))) tNil)) (gName 4) tYes (tCall (sp_law_one K) [] E0 (tCons (tVar 0) (tCons (tVar 3) tNil))) [4]))))

def t_law_thing (K : PySem.W.Frag) (C : Addr) : TS :=
 (tSeq (tAsg (tCall (sp_law_draw K) [] E0 (tCons (tVar 0) (tCons (tC (.int 8)) tNil))) (gName 2))
 (tSeq (tAsg (tOp rSubU (tCall (sp_law_draw K) [] E0 (tCons (tVar 0) (tCons (tOp rPowU (tC (.int 10)) (tC (.int 9))) tNil))) (tOp (rMulU K) (tC (.int 5)) (tOp rPowU (tC (.int 10)) (tC (.int 8))))) (gName 3))
 (tSeq (tIfS (tTest (tOp (rEqU K) (tVar 2) (tC (.int 0))))
 (tRet (tVar 3))
 tNext)
 (tSeq (tIfS (tTest (tOp (rEqU K) (tVar 2) (tC (.int 1))))
 (tRet (tOp rGtU (tVar 3) (tC (.int 0))))
 tNext)
 (tSeq (tIfS (tTest (tOp (rEqU K) (tVar 2) (tC (.int 2))))
 (tRet (tCall (sp_law_text K) [] E0 (tCons (tVar 0) (tCons (tC (.int 0)) (tCons (tC (.int 5)) tNil)))))
 tNext)
 (tSeq (tIfS (tTest (tOp (rEqU K) (tVar 2) (tC (.int 3))))
 (tRet (tC .non))
 tNext)
 (tSeq (tIfS (tTest (tOp (rEqU K) (tVar 2) (tC (.int 4))))
 (tRet (tSl (rSlA K) (tTup (tCons (tVar 3) (tCons (tTup (tCons (tVar 3) (tCons (tC .non) tNil))) tNil))) tNoPart (tPart (tCall (sp_law_draw K) [] E0 (tCons (tVar 0) (tCons (tC (.int 3)) tNil))))))
 tNext)
 (tSeq (tIfS (tTest (tOp (rEqU K) (tVar 2) (tC (.int 5))))
 (tRet (tMakeN (cAt K "Case") 2 0 (sp_Case___init__ K) (fun (vs zs : List V) => vs) E0 (tCons (tCall (sp_law_text K) [] E0 (tCons (tVar 0) (tCons (tC (.int 1)) (tCons (tC (.int 3)) tNil)))) (tCons (tVar 3) tNil)) tNil))
 tNext)
 (tRet (tCall (sp_law_one K) [] E0 (tCons (tVar 0) (tCons (tVar 1) tNil))))))))))))

def t_law_alike (K : PySem.W.Frag) : TS :=
 (tRet (tAndV (tOp (rEqU K) (tCB (rIsiU K) (tCons (tVar 0) (tCons (tC (.ty "bool")) tNil))) (tCB (rIsiU K) (tCons (tVar 1) (tCons (tC (.ty "bool")) tNil)))) (tOp (rEqS K) (tVar 0) (tVar 1))))

def t_law_right (K : PySem.W.Frag) (C : Addr) : TS :=
 (tSeq (tIfS (tOr (tTest (tOp (rNeU K) (tUn (rFldU K "kind") (tVar 0)) (tVar 1))) (tOr (tNot (tTru K (tCB (rIsiU K) (tCons (tUn (rFldU K "fields") (tVar 0)) (tCons (tC (.ty "dict")) tNil))))) (tTest (tOp (rNeU K) (tCB (rLenU K) (tCons (tUn (rFldU K "fields") (tVar 0)) tNil)) (tCB (rLenU K) (tCons (tVar 2) tNil))))))
 (tRet (tC (.bl false)))
 tNext)
 (tSeq (tLock (tFor (iKeys (tVar 2)) (gName 3)
 (tIfS (tOr (tB (tDNotIn (tVar 3) (tUn (rFldU K "fields") (tVar 0)))) (tNot (tTru K (tCall (sp_law_alike K) [] E0 (tCons (tDGet (tUn (rFldU K "fields") (tVar 0)) (tVar 3)) (tCons (tDGet (tVar 2) (tVar 3)) tNil))))))
 (tRet (tC (.bl false)))
 tNext)))
 (tRet (tC (.bl true)))))

def t_law_made (K : PySem.W.Frag) (C : Addr) : TS :=
 (tSeq (tIfS (tTest (tOp (rEqU K) (tVar 0) (tC (.int 0))))
 (tSeq (tAsg (tCB (rDictU K) (tCons (tVar 2) tNil)) (gName 3))
 (tSeq (tAsg (tMakeN (cAt K "Node") 2 0 (sp_Node___init__ K) (fun (vs zs : List V) => vs) E0 (tCons (tVar 1) (tCons (tVar 3) tNil)) tNil) (gName 4))
 (tSeq (tDrop (tBM0 K "dict" rDClr (tVar 3)))
 (tRet (tVar 4)))))
 tNext)
 (tSeq (tIfS (tTest (tOp (rEqU K) (tVar 0) (tC (.int 1))))
 (tSeq (tAsg (LiI.tListItems (tVar 2)) (gName 3))
 (tSeq (tAsg (tMakeN (cAt K "Node") 0 2 (sp_Node___init__ K) (fun (vs zs : List V) => vs ++ zs.reverse) E0 tNil (tCons (tVar 3) (tCons (tVar 1) tNil))) (gName 4))
 (tSeq (tDrop (tBM0 K "list" rClear (tVar 3)))
 (tRet (tVar 4)))))
 tNext)
 (tSeq (tIfS (tTest (tOp (rEqU K) (tVar 0) (tC (.int 2))))
 (tRet (tMakeN (cAt K "Node") 1 1 (sp_Node___init__ K) (fun (vs zs : List V) => vs ++ zs) E0 (tCons (tVar 1) tNil) (tCons (tTupItems (tVar 2)) tNil)))
 tNext)
 (tSeq (tAsg (tMakeN (cAt K "Node") 1 0 (sp_Node___init__ K) (fun (vs zs : List V) => vs ++ ([.ref C] : List V)) E0 (tCons (tVar 1) tNil) tNil) (gName 4))
 (tSeq (tLock (tFor (iEnumD (tVar 2)) (gTup K 2 (gCons (gName 5) (gCons (gName 6) gNil)))
 (tIfS (tTest (tOp (rEqU K) (tOp rModU (tVar 5) (tC (.int 2))) (tC (.int 0))))
 (tDrop (tMethU (cAt K "Node") "put" (sp_Node_put K) E0 (tVar 4) (tCons (tVar 6) (tCons (tDGet (tVar 2) (tVar 6)) tNil))))
 (tDrop (tMethK (cAt K "Node") "put" 2 (sp_Node_put K) (fun (vs zs : List V) => vs ++ zs.reverse) E0 (tVar 4) (tCons (tDGet (tVar 2) (tVar 6)) (tCons (tVar 6) tNil)))))))
 (tRet (tVar 4)))))))

def t_law_cases_right (K : PySem.W.Frag) (C : Addr) : TS :=
 (tSeq (tAsg (tCall (sp_law_text K) [] E0 (tCons (tVar 0) (tCons (tC (.int 1)) (tCons (tC (.int 8)) tNil)))) (gName 1))
 (tSeq (tAsg (tCall (sp_law_one K) [] E0 (tCons (tVar 0) (tCons (tLst (tCons (tC (.int 0)) (tCons (tC (.bl false)) (tCons (tC (.str (PySem.Str.ofString ""))) (tCons (tTup tNil) (tCons (tC .non) (tCons (tC (.str (PySem.Str.ofString "x"))) (tCons (tTup (tCons (tC (.int 1)) (tCons (tC (.int 2)) tNil))) (tCons (tMakeN (cAt K "Node") 1 0 (sp_Node___init__ K) (fun (vs zs : List V) => vs ++ ([.ref C] : List V)) E0 (tCons (tC (.str (PySem.Str.ofString "k"))) tNil) tNil) tNil))))))))) tNil))) (gName 2))
 (tSeq (tAsg (tLst (tCons (tMakeN (cAt K "Case") 2 0 (sp_Case___init__ K) (fun (vs zs : List V) => vs) E0 (tCons (tVar 1) (tCons (tVar 2) tNil)) tNil) (tCons (tMakeN (cAt K "Case") 0 2 (sp_Case___init__ K) (fun (vs zs : List V) => vs ++ zs.reverse) E0 tNil (tCons (tVar 2) (tCons (tVar 1) tNil))) (tCons (tMakeN (cAt K "Case") 1 1 (sp_Case___init__ K) (fun (vs zs : List V) => vs ++ zs) E0 (tCons (tVar 1) tNil) (tCons (tVar 2) tNil)) tNil)))) (gName 3))
 (tSeq (tIfS (tTest (tOp (rNeU K) (tLc (iList K (tVar 3)) (gName 4) (tOr (tTest (tOp (rNeU K) (tUn (rFldU K "word") (tVar 4)) (tVar 1))) (tNot (tTru K (tCall (sp_law_alike K) [] E0 (tCons (tUn (rFldU K "content") (tVar 4)) (tCons (tVar 2) tNil)))))) (tVar 4) [4]) (tLst tNil)))
 (tRet (tC (.bl false)))
 tNext)
 (tRet (tAndV (tOp rIsNU (tUn (rFldU K "content") (tMakeN (cAt K "Case") 1 0 (sp_Case___init__ K) (fun (vs zs : List V) => vs ++ ([.non] : List V)) E0 (tCons (tVar 1) tNil) tNil)) (tC .non)) (tOp (rEqU K) (tUn (rFldU K "word") (tMakeN (cAt K "Case") 0 1 (sp_Case___init__ K) (fun (vs zs : List V) => vs ++ zs ++ ([.non] : List V)) E0 tNil (tCons (tVar 1) tNil))) (tVar 1))))))))

@[irreducible] def b_law_1 (K : PySem.W.Frag) (C : Addr) : TS :=
 (tSeq (tAsg (tLc (iRng1 (tCons (tCall (sp_law_draw K) [] E0 (tCons (tVar 2) (tCons (tC (.int 6)) tNil))) tNil)) (gName 11) tYes (tCall (sp_law_text K) [] E0 (tCons (tVar 2) (tCons (tC (.int 1)) (tCons (tC (.int 2)) tNil)))) [11]) (gName 9))
 (tSeq (tAsg (tCB (rDictU K) (tCons (tLc (iList K (tVar 9)) (gName 13) tYes (tTup (tCons (tVar 13) (tCons (tCall (sp_law_thing K) [] E0 (tCons (tVar 2) (tCons (tOp (rAddU K) (tVar 4) (tVar 5)) tNil))) tNil))) [13]) tNil)) (gName 10))
 (tSeq (tDrop (tBM K "list" rAppU (tVar 7) (tCons (tCall (sp_law_text K) [] E0 (tCons (tVar 2) (tCons (tC (.int 1)) (tCons (tC (.int 8)) tNil)))) tNil)))
 (tSeq (tDrop (tBM K "list" rAppU (tVar 5) (tCons (tCall (sp_law_made K) [] E0 (tCons (tVar 8) (tCons (tOp (rIxU K) (tVar 7) (tUn rNegU (tC (.int 1)))) (tCons (tVar 10) tNil)))) tNil)))
 (tDrop (tBM K "list" rAppU (tVar 6) (tCons (tVar 10) tNil)))))))

@[irreducible] def b_law_3 (K : PySem.W.Frag) (C : Addr) : TS :=
 (tSeq (tAsg (tCall (sp_law_draw K) [] E0 (tCons (tVar 2) (tCons (tCB (rLenU K) (tCons (tVar 5) tNil)) tNil))) (gName 12))
 (tSeq (tAsg (tCall (sp_law_one K) [] E0 (tCons (tVar 2) (tCons (tOp (rAddU K) (tCB (rListD K) (tCons (tOp (rIxU K) (tVar 6) (tVar 12)) tNil)) (tLst (tCons (tCall (sp_law_text K) [] E0 (tCons (tVar 2) (tCons (tC (.int 1)) (tCons (tC (.int 2)) tNil)))) tNil))) tNil))) (gName 13))
 (tSeq (tAsg (tCall (sp_law_thing K) [] E0 (tCons (tVar 2) (tCons (tVar 5) tNil))) (gName 14))
 (tSeq (tDrop (tMethU (cAt K "Node") "put" (sp_Node_put K) E0 (tOp (rIxU K) (tVar 5) (tVar 12)) (tCons (tVar 13) (tCons (tVar 14) tNil))))
 (sDPut (tOp (rIxU K) (tVar 6) (tVar 12)) (tVar 13) (tVar 14))))))

@[irreducible] def b_law_4 (K : PySem.W.Frag) (C : Addr) : TS :=
 (tSeq (tFor (iZip3 K (tCons (tVar 5) (tCons (tVar 7) (tCons (tVar 6) tNil)))) (gTup K 3 (gCons (gName 15) (gCons (gName 16) (gCons (gName 10) gNil))))
 (tIfS (tNot (tTru K (tCall (sp_law_right K) [] E0 (tCons (tVar 15) (tCons (tVar 16) (tCons (tVar 10) tNil))))))
 (tRet (tC (.bl false)))
 tNext))
 (tIfS (tOr (tNot (tTru K (tCall (sp_law_cases_right K) [] E0 (tCons (tVar 2) tNil)))) (tOr (tNot (tTru K (tCall (sp_law_right K) [] E0 (tCons (tOp (rIxU K) (tVar 4) (tC (.int 0))) (tCons (tC (.str (PySem.Str.ofString "z"))) (tCons tDNewK tNil)))))) (tNot (tTru K (tCall (sp_law_right K) [] E0 (tCons (tOp (rIxU K) (tVar 4) (tC (.int 1))) (tCons (tC (.str (PySem.Str.ofString "y"))) (tCons tDNewK tNil))))))))
 (tRet (tC (.bl false)))
 tNext))

@[irreducible] def b_law_2 (K : PySem.W.Frag) (C : Addr) : TS :=
 (tSeq (tFor (iRng1 (tCons (tCall (sp_law_draw K) [] E0 (tCons (tVar 2) (tCons (tC (.int 5)) tNil))) tNil)) (gName 11)
 (b_law_3 K C))
 (b_law_4 K C))

@[irreducible] def b_law_0 (K : PySem.W.Frag) (C : Addr) : TS :=
 (tSeq (tAsg (tCall (sp_law_well K) [] E0 (tCons (tVar 1) tNil)) (gName 2))
 (tSeq (tAsg (tLc (iRng1 (tCons (tOp (rAddU K) (tC (.int 1)) (tCall (sp_law_draw K) [] E0 (tCons (tVar 2) (tCons (tC (.int 3)) tNil)))) tNil)) (gName 11) tYes (tCall (sp_law_draw K) [] E0 (tCons (tVar 2) (tCons (tC (.int 4)) tNil))) [11]) (gName 3))
 (tSeq (tAsg (tLst (tCons (tMakeN (cAt K "Node") 1 0 (sp_Node___init__ K) (fun (vs zs : List V) => vs ++ ([.ref C] : List V)) E0 (tCons (tC (.str (PySem.Str.ofString "z"))) tNil) tNil) (tCons (tMakeN (cAt K "Node") 1 0 (sp_Node___init__ K) (fun (vs zs : List V) => vs ++ ([.ref C] : List V)) E0 (tCons (tC (.str (PySem.Str.ofString "y"))) tNil) tNil) tNil))) (gName 4))
 (tSeq (tAsg (tLst tNil) (gName 5))
 (tSeq (tAsg (tLst tNil) (gName 6))
 (tSeq (tAsg (tLst tNil) (gName 7))
 (tSeq (tFor (iList K (tVar 3)) (gName 8)
 (b_law_1 K C))
 (b_law_2 K C))))))))

def t_law (K : PySem.W.Frag) (C : Addr) : TS :=
 (tSeq (tFor (iList K (tOp (rAddU K) (tSl (rSlLU K) (tVar 0) tNoPart (tPart (tC (.int 6)))) (tLst (tCons (tC (.int 0)) tNil)))) (gName 1)
 (b_law_0 K C))
 (tRet (tC (.bl true))))
end K11

/-! ## k11: readings of the draws, the texts, the classes' methods -/
namespace K11
open PySem PySem.Spec PyProof.Rows L2 Kb
section
variable {K : PySem.W.Frag} {Q : VK} {E : XK} {H0 H H' : Hp} {S p : Addr} {n m : Nat} {o : HO} {M : List Addr}
theorem Wel.mono (w : Wel H S n) (l : n ≤ m) : Wel H S m := by
  obtain ⟨d, x, c, h, a, b, e, f⟩ := w
  exact ⟨d, x, c, h, a, b, e, by omega⟩
theorem Wel.new (w : Wel H S n) (np : H p = none) : Wel (upd H p o) S n := by
  obtain ⟨d, x, c, h, r⟩ := w
  exact ⟨d, x, c, (upd_ne (ne_of_none h np)).trans h, r⟩
theorem Wel.ne (w : Wel H S n) (np : H p = none) : p ≠ S := by
  obtain ⟨d, x, c, h, r⟩ := w
  exact (ne_of_none h np).symm
theorem Wel.off (w : Wel H S n) (np : p ≠ S) : Wel (upd H p o) S n := by
  obtain ⟨d, x, c, h, r⟩ := w
  exact ⟨d, x, c, (upd_ne np.symm).trans h, r⟩
theorem Wel.kp (w : Wel H S n) (k : Kp M H H') (nm : S ∉ M) : Wel H' S n := by
  obtain ⟨d, x, c, h, r⟩ := w
  exact ⟨d, x, c, k.at_ nm h, r⟩
theorem Wel.lst (w : Wel H S n) : ∃ xs, H S = some (.lst xs) := by
  obtain ⟨d, x, c, h, r⟩ := w
  exact ⟨_, h⟩
/-- drawing since H0: all that stood there stands, but for the well -/
def SW (H0 : Hp) (S : Addr) (n : Nat) (H : Hp) : Prop := Kp [S] H0 H ∧ Wel H S n
theorem SW.new (sc : SW H0 S n H) (np : H p = none) : SW H0 S n (upd H p o) := ⟨sc.1.upd_new' np, sc.2.new np⟩
theorem SW.mono (sc : SW H0 S n H) (l : n ≤ m) : SW H0 S m H := ⟨sc.1, sc.2.mono l⟩
theorem SW.nm (sc : SW H0 S n H) (np : H p = none) : p ∉ [S] := nm_cons (sc.2.ne np) List.not_mem_nil
theorem SW.was (sc : SW H0 S n H) (np : H p = none) : H0 p = none := sc.1.none_of (sc.nm np) np
theorem SW.upd (sc : SW H0 S n H) (np : H0 p = none) (ne : p ∉ [S]) : SW H0 S n (upd H p o) := ⟨sc.1.upd_new np, sc.2.off fun e => ne (by rw [e]; exact List.mem_cons_self)⟩
theorem SW.kp (sc : SW H0 S n H) (k : Kp [] H H') : SW H0 S n H' := ⟨sc.1.trans (k.mono fun a z => absurd z List.not_mem_nil), sc.2.kp k List.not_mem_nil⟩
theorem SW.drop (sc : SW H0 S n H) (k : Kp [p] H H') (np : H0 p = none) (ne : p ≠ S) : SW H0 S n H' := ⟨sc.1.drop k fun a z => .inr (by rw [List.mem_singleton.mp z]; exact np), sc.2.kp k (nm_cons ne.symm List.not_mem_nil)⟩
/-- a new thing at x, its dict at dx, filled -/
theorem SW.make {C x dx : Addr} {fs : List (Str × V)} (sc : SW H0 S n H) (nx : H x = none) (nd : H dx = none) (ne : dx ≠ x) (k : Kp [x] (L2.upd (L2.upd H dx (.own x)) x (.ins C dx fs)) H') : SW H0 S n H' :=
  ((sc.new nd).new ((upd_ne ne.symm).trans nx)).drop k (sc.was nx) (sc.2.ne nx)
theorem draw_go {i : Int} (sc : SW H0 S n H) (hn : n ≤ 1000000000) (h0 : 0 < i) (h1 : i < 1073741824) (q : ∀ H' r, SW H0 S (n + 1) H' → Kp [S] H H' → 0 ≤ r → r < i → Q (.int r) H') : sp_law_draw K [.ref S, .int i] H Q E := by
  unfold sp_law_draw
  exact ⟨S, i, n, rfl, sc.2, hn, h0, h1, fun H' r k st a b => q H' r ⟨sc.1.trans k, st⟩ k a b⟩
theorem text_go {lo hi : Int} (sc : SW H0 S n H) (hn : n ≤ 100000000) (h0 : 0 ≤ lo) (h1 : lo ≤ hi) (h2 : hi ≤ 10) (q : ∀ H' z, SW H0 S (n + 12) H' → Kp [S] H H' → z.length ≤ 10 → Q (.str z) H') : sp_law_text K [.ref S, .int lo, .int hi] H Q E := by
  unfold sp_law_text
  exact ⟨S, n, lo, hi, rfl, sc.2, hn, h0, h1, h2, fun H' z k st a => q H' z ⟨sc.1.trans k, st⟩ k a⟩
theorem oneS_go {z : Str} (sc : SW H0 S n H) (hn : n ≤ 1000000000) (h0 : 0 < z.length) (h1 : z.length ≤ 1000) (q : ∀ H' c, SW H0 S (n + 1) H' → Kp [S] H H' → Q (.str ⟨#[c]⟩) H') : sp_law_one K [.ref S, .str z] H Q E := by
  unfold sp_law_one
  exact ⟨S, _, n, rfl, sc.2, hn, .inr ⟨z, rfl, h0, h1, fun H' c k st => q H' c ⟨sc.1.trans k, st⟩ k⟩⟩
theorem oneL_go {a : Addr} {xs : List V} (sc : SW H0 S n H) (hn : n ≤ 1000000000) (h : SqL K H a xs) (h0 : xs ≠ []) (h1 : xs.length ≤ 10000) (ne : a ≠ S) (q : ∀ H' y, SW H0 S (n + 1) H' → Kp [S] H H' → y ∈ xs → Q y H') : sp_law_one K [.ref S, .ref a] H Q E := by
  unfold sp_law_one
  exact ⟨S, _, n, rfl, sc.2, hn, .inl ⟨a, xs, rfl, h, h0, h1, ne, fun H' y k st m => q H' y ⟨sc.1.trans k, st⟩ k m⟩⟩
end
theorem ix_mem {α : Type} {xs : List α} {i : Int} (h0 : 0 ≤ i) (h1 : i < xs.length) : ∃ x, x ∈ xs ∧ atI xs i = some x := by
  have h : i.toNat < xs.length := by omega
  refine ⟨xs[i.toNat], List.getElem_mem h, ?_⟩
  have e : (i.toNat : Int) = i := by omega
  have := atI_nat (List.getElem?_eq_getElem h)
  rw [e] at this
  exact this
end K11

/-! ## k11: things, dicts made, methods -/
namespace K11
open PySem PySem.Spec PyProof.Rows L2 Kb
section
variable {K : PySem.W.Frag} {Q : VK} {E : XK} {H0 H H' : Hp} {S p a : Addr} {n m : Nat} {o : HO} {M : List Addr} {x : V} {xs : List V} {kvs : List (L2.Key × V)}
/-- nothing there, or a list, or a dict -/
def Loose (H : Hp) (a : Addr) : Prop := H a = none ∨ (∃ xs, H a = some (.lst xs)) ∨ (∃ kvs, H a = some (.dK kvs)) ∨ ∃ o kvs, H a = some (.frz o (.dK kvs))
theorem Loose.not {u : HO} (l : Loose H a) (h : H a = some u) (n1 : ∀ xs, u ≠ .lst xs) (n2 : ∀ kvs, u ≠ .dK kvs) (n3 : ∀ o kvs, u ≠ .frz o (.dK kvs)) : False := by
  rcases l with e | ⟨_, e⟩ | ⟨_, e⟩ | ⟨_, _, e⟩ <;> rw [h] at e <;> cases e
  · exact n1 _ rfl
  · exact n2 _ rfl
  · exact n3 _ _ rfl
theorem sqT_kp (k : Kp M H H') (l : ∀ b ∈ M, Loose H b) (h : SqT K H a xs) : SqT K H' a xs := by
  rcases h with (h | ⟨o, h⟩) | h
  · exact .inl (.inl (k _ _ (fun z => (l a z).not h (fun _ e => by cases e) (fun _ e => by cases e) fun _ _ e => by cases e) h))
  · exact .inl (.inr ⟨o, k _ _ (fun z => (l a z).not h (fun _ e => by cases e) (fun _ e => by cases e) fun _ _ e => by cases e) h⟩)
  · exact .inr h
theorem TupT.kp (h : TupT K H x) (k : Kp M H H') (l : ∀ b ∈ M, Loose H b) : TupT K H' x := by
  obtain ⟨a, xs, rfl, ha, f⟩ := h
  refine ⟨a, xs, rfl, sqT_kp k l ha, fun y hy => ?_⟩
  rcases f y hy with h | ⟨b, ys, rfl, hb, g⟩
  · exact .inl h
  · exact .inr ⟨b, ys, rfl, sqT_kp k l hb, g⟩
theorem Thg.kp (h : Thg K H x) (k : Kp M H H') (l : ∀ b ∈ M, Loose H b) : Thg K H' x := by
  rcases h with h | h | h | h | h | ⟨a, C, dx, fs, rfl, ha, pc, kb⟩
  · exact .inl h
  · exact .inr (.inl h)
  · exact .inr (.inr (.inl h))
  · exact .inr (.inr (.inr (.inl h)))
  · exact .inr (.inr (.inr (.inr (.inl (h.kp k l)))))
  · exact .inr (.inr (.inr (.inr (.inr ⟨a, C, dx, fs, rfl, k _ _ (fun z => (l a z).not ha (fun _ e => by cases e) (fun _ e => by cases e) fun _ _ e => by cases e) ha, pc, kb⟩))))
theorem Thg.kp0 (h : Thg K H x) (k : Kp [] H H') : Thg K H' x := h.kp k fun b z => nomatch z
theorem Thg.int {i : Int} : Thg K H (.int i) := .inl ⟨i, rfl⟩
theorem Thg.bl {b : Bool} : Thg K H (.bl b) := .inr (.inl ⟨b, rfl⟩)
theorem Thg.str {z : Str} : Thg K H (.str z) := .inr (.inr (.inl ⟨z, rfl⟩))
theorem Thg.non : Thg K H .non := .inr (.inr (.inr (.inl rfl)))
theorem Thg.tup (h : TupT K H x) : Thg K H x := .inr (.inr (.inr (.inr (.inl h))))
theorem Thg.ins {C dx : Addr} {fs : List (Str × V)} (h : H a = some (.ins C dx fs)) (pc : PlainCls K C) (kb : PySem.W.kitOne K (.ref C) (.type "bool") = some false) : Thg K H (.ref a) := .inr (.inr (.inr (.inr (.inr ⟨a, C, dx, fs, rfl, h, pc, kb⟩))))
theorem Wel.loose (w : Wel H S n) : ∀ b ∈ [S], Loose H b := fun b z => by
  rw [List.mem_singleton.mp z]
  exact .inr (.inl w.lst)
/-! data of a tuple -/
theorem dp_all {k : Nat} : ∀ {ys : List V}, (∀ y ∈ ys, ∃ d, Dp K H y d ∧ Sh k d) → ∃ ds, DpAll K H ys ds ∧ ∀ d ∈ ds, Sh k d
  | [], _ => ⟨[], .nil, fun d h => nomatch h⟩
  | y :: ys, h => by
    obtain ⟨d, h1, h2⟩ := h y (by simp)
    obtain ⟨ds, h3, h4⟩ := dp_all fun z hz => h z (List.mem_cons_of_mem _ hz)
    refine ⟨d :: ds, .cons h1 h3, fun e he => ?_⟩
    rcases List.mem_cons.mp he with rfl | he
    · exact h2
    · exact h4 e he
theorem flt_dp {y : V} (k : Nat) (h : Flt y) : ∃ d, Dp K H y d ∧ Sh k d := by
  rcases h with ⟨i, rfl⟩ | rfl
  · exact ⟨_, .int i, sh_int⟩
  · exact ⟨_, .non, sh_non⟩
theorem tup_dp (h : TupT K H x) : ∃ d, Dp K H x d ∧ Sh 2 d := by
  obtain ⟨a, xs, rfl, ha, f⟩ := h
  obtain ⟨ds, h1, h2⟩ := dp_all (K := K) (H := H) (k := 1) (ys := xs) fun y hy => by
    rcases f y hy with h | ⟨b, ys, rfl, hb, g⟩
    · exact flt_dp 1 h
    · obtain ⟨ds, h1, h2⟩ := dp_all (K := K) (H := H) (k := 0) (ys := ys) fun y hy => flt_dp 0 (g y hy)
      exact ⟨_, .tup hb h1, sh_tup h2⟩
  exact ⟨_, .tup ha h1, sh_tup h2⟩
theorem sqT_ty (h : SqT K H a xs) : TyX K H (.ref a) (.type "tuple") := by
  rcases h with (h | ⟨o, h⟩) | ⟨o, its, n, h, c, _⟩
  · exact .base (.tup h)
  · exact .fTuple h
  · exact .kTuple h c
end
theorem len_law_alike (K : PySem.W.Frag) : ∀ vs H Q E, sp_law_alike K vs H Q E → vs.length = ["_law_found", "_law_due"].length := by
  intro _ _ _ _ h
  unfold sp_law_alike at h
  obtain ⟨_, rfl, _⟩ := h
  rfl
theorem p_law_alike (K : PySem.W.Frag) (vs : List V) (H : Hp) (Q : VK) (E : XK) (h : sp_law_alike K vs H Q E) : t_law_alike K { nx := fun _ H' => Q .non H', rt := Q } (start ["_law_found", "_law_due"] vs) H := by
  unfold sp_law_alike at h
  obtain ⟨x, rfl, h, q⟩ := h
  rcases h with ⟨i, rfl⟩ | ⟨b, rfl⟩ | ⟨z, rfl⟩ | rfl | h | ⟨a, C, dx, fs, rfl, ha, pc, kb⟩
  · walk_at "go"
    exact eqS_no (eq_go (by rw [decide_eq_true rfl]; exact q))
  · walk_at "go"
    exact eqS_no (eqB_go (by rw [decide_eq_true rfl]; exact q))
  · walk_at "go"
    exact eqS_no (eqS_go (by rw [decide_eq_true rfl]; exact q))
  · walk_at "go"
    exact eqS_no (eqN_go q)
  · obtain ⟨d, hd, sh⟩ := tup_dp h
    obtain ⟨a, xs, rfl, ha, f⟩ := h
    have ty := sqT_ty ha
    have ki : PySem.W.kitOne K (.type "tuple") (.type "bool") = some false := ki_tuple_bool
    walk_at "go"
    refine eqS_no (eqD_go hd hd (sh.ok (by decide)) (sh.ok (by decide)) ?_)
    rw [SeqAt.eqv_refl _ sh.1]
    exact q
  · have ty := pc.ty ha
    walk_at "go"
    refine isiX_go ty kb ?_
    walk_at "go"
    refine isiX_go ty kb ?_
    walk_at "go"
    exact eqS_in ha pc.eq q
/-! the classes' methods -/
theorem mergeK_self : ∀ (kvs acc : List (L2.Key × V)), ((acc ++ kvs).map (·.1)).Nodup → mergeK acc kvs = acc ++ kvs
  | [], acc, _ => by simp [mergeK]
  | (k, v) :: r, acc, h => by
    have h1 : valV acc k = none := by
      have h2 : ∀ q ∈ acc, q.1 ≠ k := fun q hq e => by
        rw [List.map_append] at h
        exact (List.nodup_append.mp h).2.2 q.1 (List.mem_map_of_mem hq) k (by simp) e
      unfold valV
      rw [List.find?_eq_none.mpr (fun q hq => by simp [h2 q hq])]
      rfl
    show mergeK (putK acc k v) r = _
    rw [putK_new v h1, mergeK_self r _ (by simpa using h), List.append_assoc]
    rfl
section
variable {K : PySem.W.Frag} {Q : VK} {E : XK} {H0 H H' : Hp} {S p a : Addr} {n m : Nat} {o : HO} {M : List Addr} {x : V} {xs : List V} {kvs : List (L2.Key × V)}
/-- nothing there, or an own thing -/
def Free (H : Hp) (a : Addr) : Prop := H a = none ∨ (∃ C dx fs, H a = some (.ins C dx fs)) ∨ ∃ x, H a = some (.own x)
theorem Free.not {u : HO} (l : Free H a) (h : H a = some u) (n1 : ∀ C dx fs, u ≠ .ins C dx fs) (n2 : ∀ x, u ≠ .own x) : False := by
  rcases l with e | ⟨_, _, _, e⟩ | ⟨_, e⟩ <;> rw [h] at e <;> cases e
  · exact n1 _ _ _ rfl
  · exact n2 _ rfl
theorem sqT_kpF (k : Kp M H H') (l : ∀ b ∈ M, Free H b) (h : SqT K H a xs) : SqT K H' a xs := by
  rcases h with (h | ⟨o, h⟩) | h
  · exact .inl (.inl (k _ _ (fun z => (l a z).not h (fun _ _ _ e => by cases e) fun _ e => by cases e) h))
  · exact .inl (.inr ⟨o, k _ _ (fun z => (l a z).not h (fun _ _ _ e => by cases e) fun _ e => by cases e) h⟩)
  · exact .inr h
theorem sqL_kpF (k : Kp M H H') (l : ∀ b ∈ M, Free H b) (h : SqL K H a xs) : SqL K H' a xs := by
  rcases h with (h | ⟨o, h⟩) | h
  · exact .inl (.inl (k _ _ (fun z => (l a z).not h (fun _ _ _ e => by cases e) fun _ e => by cases e) h))
  · exact .inl (.inr ⟨o, k _ _ (fun z => (l a z).not h (fun _ _ _ e => by cases e) fun _ e => by cases e) h⟩)
  · exact .inr h
theorem Arg.kp (h : Arg K H x kvs) (k : Kp M H H') (l : ∀ b ∈ M, Free H b) : Arg K H' x kvs := by
  obtain ⟨a, rfl, h | ⟨ps, kv0, h1, h2, e⟩ | ⟨ps, kv0, h1, h2, e⟩⟩ := h
  · exact ⟨a, rfl, .inl (k _ _ (fun z => (l a z).not h (fun _ _ _ e => by cases e) fun _ e => by cases e) h)⟩
  · exact ⟨a, rfl, .inr (.inl ⟨ps, kv0, sqL_kpF k l h1, paired_imp (fun _ _ r => sqT_kpF k l r) h2, e⟩)⟩
  · refine ⟨a, rfl, .inr (.inr ⟨ps, kv0, ?_, paired_imp (fun _ _ r => sqT_kpF k l r) h2, e⟩)⟩
    rcases h1 with h1 | h1
    · exact .inl (k _ _ (fun z => (l a z).not h1 (fun _ _ _ e => by unfold ptup at e; cases e) fun _ e => by unfold ptup at e; cases e) h1)
    · exact .inr h1
theorem dict_go (h : Arg K H x kvs) (q : ∀ F, H F = none → Q (.ref F) (upd H F (.dK kvs))) : rDictU K [x] H Q := by
  unfold rDictU
  obtain ⟨a, rfl, h | ⟨ps, kv0, h1, h2, rfl⟩ | ⟨ps, kv0, h1, h2, rfl⟩⟩ := h
  · exact ⟨a, rfl, .inl ⟨kvs, .inl h, q⟩⟩
  · exact ⟨a, rfl, .inr (.inl ⟨ps, kv0, h1, h2, q⟩)⟩
  · exact ⟨a, rfl, .inr (.inr ⟨ps, kv0, h1, h2, q⟩)⟩
end
theorem len_Node___init__ (K : PySem.W.Frag) : ∀ vs H Q E, sp_Node___init__ K vs H Q E → vs.length = ["self", "kind", "fields"].length := by
  rintro _ _ _ _ ⟨_, _, _, _, _, rfl, _⟩; rfl
theorem p_Node___init__ (K : PySem.W.Frag) (C : Addr) (O : Own K C) (vs : List V) (H : Hp) (Q : VK) (E : XK) (h : sp_Node___init__ K vs H Q E) : t_Node___init__ K C { nx := fun _ H' => Q .non H', rt := Q } (start ["self", "kind", "fields"] vs) H := by
  obtain ⟨a, dx, z, x, kvs, rfl, ha, hx, q⟩ := h
  obtain ⟨cl, n1, n2, _, _⟩ := O.Node
  walk_at "go"
  have hx2 : Arg K (upd H a (.ins (cAt K "Node") dx [("kind", .str z)])) x kvs := hx.kp (M := [a]) (Kp.refl.upd_in List.mem_cons_self) fun b hb => by
    rw [List.mem_singleton.mp hb]
    exact .inr (.inl ⟨_, _, _, ha⟩)
  refine dict_go hx2 fun F nF => ?_
  have Fa : a ≠ F := ne_of_none upd_same nF
  have nF0 : H F = none := by rw [upd_ne Fa.symm] at nF; exact nF
  walk_at "go"
  refine q _ F nF0 (by walk_at "kp") upd_same ((upd_ne Fa.symm).trans upd_same)
theorem len_Node_put (K : PySem.W.Frag) : ∀ vs H Q E, sp_Node_put K vs H Q E → vs.length = ["self", "name", "thing"].length := by
  rintro _ _ _ _ ⟨_, _, _, _, _, _, _, rfl, _⟩; rfl
theorem p_Node_put (K : PySem.W.Frag) (C : Addr) (O : Own K C) (vs : List V) (H : Hp) (Q : VK) (E : XK) (h : sp_Node_put K vs H Q E) : t_Node_put K C { nx := fun _ H' => Q .non H', rt := Q } (start ["self", "name", "thing"] vs) H := by
  obtain ⟨a, dx, z, F, kvs, k, v, rfl, ha, hF, hl, q⟩ := h
  obtain ⟨cl, n1, n2, _, _⟩ := O.Node
  walk_at "go"
  exact ⟨F, _, rfl, DPut.k hF (szlt_of hl), q⟩
theorem len_Case___init__ (K : PySem.W.Frag) : ∀ vs H Q E, sp_Case___init__ K vs H Q E → vs.length = ["self", "word", "content"].length := by
  rintro _ _ _ _ ⟨_, _, _, _, rfl, _⟩; rfl
theorem p_Case___init__ (K : PySem.W.Frag) (C : Addr) (O : Own K C) (vs : List V) (H : Hp) (Q : VK) (E : XK) (h : sp_Case___init__ K vs H Q E) : t_Case___init__ K C { nx := fun _ H' => Q .non H', rt := Q } (start ["self", "word", "content"] vs) H := by
  obtain ⟨a, dx, z, v, rfl, ha, q⟩ := h
  obtain ⟨cl, n1, n2, _, _⟩ := O.Case
  walk_at "go"
  exact q _ (by walk_at "kp") upd_same
section
variable {K : PySem.W.Frag} {E : XK} {H H' : Hp} {x dx C : Addr} {z : Str} {arg : V} {kvs : List (L2.Key × V)} {QQ : V → Hp → Prop} {fs : List (Str × V)}
theorem new_kp (nx : H x = none) (nd : H dx = none) (k : Kp [x] (upd (upd H dx (.own x)) x (.ins C dx fs)) H') : Kp [] H H' := fun b o _ hb =>
  k b o (fun m => by rw [List.mem_singleton.mp m, nx] at hb; cases hb) ((upd_ne (ne_of_none hb nx)).trans ((upd_ne (ne_of_none hb nd)).trans hb))
theorem node_go (nx : H x = none) (nd : H dx = none) (ne : dx ≠ x) (ar : Arg K H arg kvs) (q : ∀ H' F, Kp [] H H' → H F = none → F ≠ x → H' x = some (.ins (cAt K "Node") dx [("kind", .str z), ("fields", .ref F)]) → H' F = some (.dK kvs) → QQ .non H') :
    sp_Node___init__ K [.ref x, .str z, arg] (upd (upd H dx (.own x)) x (.ins (cAt K "Node") dx [])) QQ E := by
  refine ⟨x, dx, z, arg, kvs, rfl, upd_same, ar.kp (M := []) ((Kp.refl.upd_new' nd).upd_new' ((upd_ne ne.symm).trans nx)) (fun b m => nomatch m), fun H' F nF k hx hF => ?_⟩
  have Fx : F ≠ x := fun e => by rw [e, upd_same] at nF; cases nF
  rw [upd_ne Fx] at nF
  have Fd : F ≠ dx := fun e => by rw [e, upd_same] at nF; cases nF
  rw [upd_ne Fd] at nF
  exact q H' F (new_kp nx nd k) nF Fx hx hF
theorem case_go {v : V} (nx : H x = none) (nd : H dx = none) (q : ∀ H', Kp [] H H' → H' x = some (.ins (cAt K "Case") dx [("word", .str z), ("content", v)]) → QQ .non H') :
    sp_Case___init__ K [.ref x, .str z, v] (upd (upd H dx (.own x)) x (.ins (cAt K "Case") dx [])) QQ E :=
  ⟨x, dx, z, v, rfl, upd_same, fun H' k hx => q H' (new_kp nx nd k) hx⟩
end
end K11

/-! steps of k11: draws -/
local macro_rules | `(tactic| walk_at "sd") => `(tactic| first
  | assumption
  | (refine' K11.SW.new ?k1 ?k2; (case k2 => assumption); (case k1 => walk_at "sd"))
  | (refine' K11.SW.upd ?k1 ?k2 ?k3; (case k2 => assumption); (case k3 => assumption); (case k1 => walk_at "sd"))
  | fail)
local macro_rules | `(tactic| walk_at "tk") => `(tactic| first
  | (refine' K11.draw_go ?k1 ?k2 ?k3 ?k4 (fun H1 r1 sc1 k1 h0 h1 => ?kq); (case k1 => walk_at "sd"); (case k2 => walk_at "c"); (case k3 => walk_at "c"); (case k4 => walk_at "c"))
  | (refine' K11.text_go ?k1 ?k2 ?k3 ?k4 ?k5 (fun H1 z1 sc1 k1 h0 => ?kq); (case k1 => walk_at "sd"); (case k2 => walk_at "c"); (case k3 => walk_at "c"); (case k4 => walk_at "c"); (case k5 => walk_at "c"))
  | fail)
local macro_rules | `(tactic| walk_at "nm") => `(tactic| first
  | assumption
  | exact List.not_mem_nil
  | (refine' K11.SW.nm ?k1 ?k2; (case k2 => assumption); (case k1 => walk_at "sd"))
  | (refine' nm_cons ?kn ?km; (case kn => walk_at "ne"); (case km => walk_at "nm"))
  | fail)
local macro_rules | `(tactic| walk_at "go") => `(tactic| repeat' first | walk_at "tk" | walk_at "s")

namespace K11
open PySem PySem.Spec PyProof.Rows L2 Kb
theorem len_law_well (K : PySem.W.Frag) : ∀ vs H Q E, sp_law_well K vs H Q E → vs.length = ["_law_cell"].length := by
  intro _ _ _ _ h
  unfold sp_law_well at h
  obtain ⟨_, rfl, _⟩ := h
  rfl
theorem p_law_well (K : PySem.W.Frag) (vs : List V) (H : Hp) (Q : VK) (E : XK) (h : sp_law_well K vs H Q E) : t_law_well K { nx := fun _ H' => Q .non H', rt := Q } (start ["_law_cell"] vs) H := by
  unfold sp_law_well at h
  obtain ⟨i, rfl, q⟩ := h
  walk_at "go"
  exact q _ _ (by assumption) ⟨_, _, _, upd_same, Int.emod_nonneg _ (by decide), Int.emod_lt_of_pos _ (by decide), by decide, by decide⟩
theorem len_law_draw (K : PySem.W.Frag) : ∀ vs H Q E, sp_law_draw K vs H Q E → vs.length = ["_law_well_here", "_law_many"].length := by
  intro _ _ _ _ h
  unfold sp_law_draw at h
  obtain ⟨_, _, _, rfl, _⟩ := h
  rfl
theorem p_law_draw (K : PySem.W.Frag) (vs : List V) (H : Hp) (Q : VK) (E : XK) (h : sp_law_draw K vs H Q E) : t_law_draw K { nx := fun _ H' => Q .non H', rt := Q } (start ["_law_well_here", "_law_many", "_law_digit", "_law_prime", "_law_number"] vs) H := by
  unfold sp_law_draw at h
  obtain ⟨S, m, n, rfl, ⟨d, mm, c, hS, m0, m1, c0, c1⟩, hn, hm0, hm1, q⟩ := h
  have fin : ∀ H' r d' c', Kp [S] H H' → H' S = some (.lst [.int d', .int mm, .int c']) → 0 ≤ c' → c' ≤ (n : Int) + 1 → Q (.int (r % m)) H' := fun H' r d' c' k h1 h2 h3 =>
    q H' _ k ⟨d', mm, c', h1, m0, m1, h2, by omega⟩ (Int.emod_nonneg _ (by omega)) (Int.emod_lt_of_pos _ hm0)
  walk_at "go"
  · exact fin _ _ _ _ (by walk_at "kp") upd_same (by omega) (by omega)
  · rename_i p np
    obtain ⟨x, hx, ex⟩ := ix_mem (xs := [V.int 2147483647, V.int 2147483629, V.int 2147483587, V.int 2147483579, V.int 2147483563]) (i := (c + 1) % 5) (by omega) (by simp only [List.length_cons, List.length_nil]; omega)
    have hpr : ∃ j : Int, x = V.int j ∧ 2147483563 ≤ j ∧ j ≤ 2147483647 := by
      simp only [List.mem_cons, List.not_mem_nil, or_false] at hx
      rcases hx with rfl | rfl | rfl | rfl | rfl <;> exact ⟨_, rfl, by decide, by decide⟩
    obtain ⟨j, rfl, j0, j1⟩ := hpr
    refine ixL_go (SqL.of upd_same) ex ?_
    have kp0 : Kp [S] H (upd (upd H S (HO.lst ([V.int d, V.int mm, V.int c].set (Int.toNat 2) (V.int (c + 1))))) p (HO.lst [V.int 2147483647, V.int 2147483629, V.int 2147483587, V.int 2147483579, V.int 2147483563])) := by walk_at "kp"
    have h0 : (upd (upd H S (HO.lst ([V.int d, V.int mm, V.int c].set (Int.toNat 2) (V.int (c + 1))))) p (HO.lst [V.int 2147483647, V.int 2147483629, V.int 2147483587, V.int 2147483579, V.int 2147483563])) S = some (.lst [.int d, .int mm, .int (c + 1)]) := by
      refine (upd_ne ?_).trans upd_same
      exact ne_of_none upd_same np
    generalize upd (upd H S _) p _ = H2 at kp0 h0 ⊢
    walk_at "go"
    generalize hX : (mm + 7919 * (c + 1) + 3) ^ Int.toNat 5 % j = r
    have r0 : 0 ≤ r := by rw [← hX]; exact Int.emod_nonneg _ (by omega)
    have r1 : r < j := by rw [← hX]; exact Int.emod_lt_of_pos _ (by omega)
    walk_at "go"
    exact fin _ _ _ _ kp0 h0 (by omega) (by omega)
theorem join_one : ∀ ys : List Str, (∀ y ∈ ys, y.length = 1) → (TL.joinL [] (ys.map TL.tl)).length = ys.length
  | [], _ => rfl
  | [y], h => by
    show (TL.tl y).length = 1
    rw [← h y (by simp)]
    show y.cps.toList.length = y.cps.size
    exact Array.length_toList
  | y :: z :: r, h => by
    have e := join_one (z :: r) fun x hx => h x (List.mem_cons_of_mem _ hx)
    have e1 : (TL.tl y).length = 1 := by
      rw [← h y (by simp)]
      show y.cps.toList.length = y.cps.size
      exact Array.length_toList
    show (TL.tl y ++ ([] ++ TL.joinL [] ((z :: r).map TL.tl))).length = _
    rw [List.length_append, List.nil_append, e, e1]
    simp only [List.length_cons]
    omega
theorem joined {ys : List Str} (h : ∀ y ∈ ys, y.length = 1) : (Txt.join (PySem.Str.ofString "") ys).length = ys.length := by
  have e : TL.tl (Txt.join (PySem.Str.ofString "") ys) = TL.joinL [] (ys.map TL.tl) := by
    rw [TL.join_eq, TL.tl_join]
    rfl
  show (Txt.join (PySem.Str.ofString "") ys).cps.size = _
  rw [← join_one ys h, ← e]
  exact Array.length_toList.symm
theorem sum_ones : ∀ (ys : List Str), (∀ y ∈ ys, y.length = 1) → (ys.map (·.length)).sum = ys.length
  | [], _ => rfl
  | y :: r, h => by
    simp only [List.map_cons, List.sum_cons, List.length_cons]
    rw [sum_ones r fun x hx => h x (List.mem_cons_of_mem _ hx), h y (by simp)]
    omega
theorem len_law_one (K : PySem.W.Frag) : ∀ vs H Q E, sp_law_one K vs H Q E → vs.length = ["_law_well_here", "_law_some"].length := by
  intro _ _ _ _ h
  unfold sp_law_one at h
  obtain ⟨_, _, _, rfl, _⟩ := h
  rfl
theorem ne_nil_pos {α : Type} {xs : List α} (h : xs ≠ []) : 0 < xs.length := List.length_pos_iff.mpr h
theorem p_law_one (K : PySem.W.Frag) (vs : List V) (H : Hp) (Q : VK) (E : XK) (h : sp_law_one K vs H Q E) : t_law_one K { nx := fun _ H' => Q .non H', rt := Q } (start ["_law_well_here", "_law_some"] vs) H := by
  unfold sp_law_one at h
  obtain ⟨S, x, n, rfl, wl, hn, ⟨a, xs, rfl, hx, x0, x1, ne, q⟩ | ⟨z, rfl, z0, z1, q⟩⟩ := h
  · have sc : SW H S n H := ⟨Kp.refl, wl⟩
    have x2 := ne_nil_pos x0
    walk_at "go"
    rename_i H1 r1 sc1 k1 r0 r2
    obtain ⟨y, hy, e⟩ := ix_mem r0 r2
    exact ixL_go (k1.sqL (nm_cons ne List.not_mem_nil) hx) e (q H1 y k1 sc1.2 hy)
  · have sc : SW H S n H := ⟨Kp.refl, wl⟩
    walk_at "go"
    rename_i H1 r1 sc1 k1 r0 r2
    obtain ⟨y, hy, e⟩ := ix_mem (xs := z.cps.toList) r0 (by rw [Array.length_toList]; exact r2)
    exact ixS_go (by omega) e (q H1 y k1 sc1.2)
theorem len_law_text (K : PySem.W.Frag) : ∀ vs H Q E, sp_law_text K vs H Q E → vs.length = ["_law_well_here", "_law_least", "_law_most"].length := by
  intro _ _ _ _ h
  unfold sp_law_text at h
  obtain ⟨_, _, _, _, rfl, _⟩ := h
  rfl
theorem p_law_text (K : PySem.W.Frag) (vs : List V) (H : Hp) (Q : VK) (E : XK) (h : sp_law_text K vs H Q E) : t_law_text K { nx := fun _ H' => Q .non H', rt := Q } (start ["_law_well_here", "_law_least", "_law_most", "_law_letters", "_law_k"] vs) H := by
  unfold sp_law_text at h
  obtain ⟨S, n, lo, hi, rfl, wl, hn, l0, l1, l2, q⟩ := h
  have sc : SW H S n H := ⟨Kp.refl, wl⟩
  walk_at "go"
  rename_i H1 r1 sc1 k1 r0 r2 D nD
  have nDm := sc1.nm nD
  refine lc_acc walk_range (fun i acc H' => SW H1 S (n + 1 + i) H' ∧ ∃ ys : List Str, acc = ys.map V.str ∧ ys.length = i ∧ ∀ y ∈ ys, y.length = 1) ⟨⟨Kp.refl.upd_new nD, sc1.2.new nD⟩, [], rfl, rfl, fun y h => nomatch h⟩ (fun _ _ _ _ _ => trivial) (fun i x acc Hc Hb hi hl hD hP hY => ?_) (fun acc Hc hl hD hP => ?_)
  · obtain ⟨scb, ys, rfl, y1, y2⟩ := hP
    obtain ⟨rfl, rfl⟩ := hY
    refine ⟨rfl, ?_⟩
    walk_at "go"
    have ll : (PySem.Str.ofString "abcdefghijklmnopqrstuvwxyz").length = 26 := by decide +kernel
    have hi2 : i ≤ 10 := by omega
    refine oneS_go scb (by omega) (by rw [ll]; decide) (by rw [ll]; decide) fun H2 c sc2 k2 => ?_
    refine acc_go hl (by omega) (by walk_at "h") ⟨sc2.upd nD nDm, ys ++ [⟨#[c]⟩], by simp, by simp [y1], fun y hy => ?_⟩
    rcases List.mem_append.mp hy with hy | hy
    · exact y2 y hy
    · rw [List.mem_singleton.mp hy]
      rfl
  · obtain ⟨scb, ys, rfl, y1, y2⟩ := hP
    have jl := joined y2
    refine ⟨_, _, ys, rfl, rfl, .inl (SqL.of hD), ?_, ?_⟩
    · rw [sum_ones ys y2]
      show ys.length + ys.length * 0 ≤ 16777216
      omega
    · refine q _ _ (sc1.1.trans scb.1) (scb.2.mono (by omega)) (by omega)
end K11

/-! ## k11: things drawn, nodes looked at, nodes made -/
namespace K11
open PySem PySem.Spec PyProof.Rows L2 Kb
theorem len_law_thing (K : PySem.W.Frag) : ∀ vs H Q E, sp_law_thing K vs H Q E → vs.length = ["_law_well_here", "_law_nodes"].length := by
  intro _ _ _ _ h
  unfold sp_law_thing at h
  obtain ⟨_, _, _, _, rfl, _⟩ := h
  rfl
theorem p_law_thing (K : PySem.W.Frag) (C : Addr) (O : Own K C) (vs : List V) (H : Hp) (Q : VK) (E : XK) (h : sp_law_thing K vs H Q E) : t_law_thing K C { nx := fun _ H' => Q .non H', rt := Q } (start ["_law_well_here", "_law_nodes", "_law_way", "_law_number"] vs) H := by
  unfold sp_law_thing at h
  obtain ⟨S, L, n, xs, rfl, wl, hn, hL, LS, x0, x1, hx, q⟩ := h
  have sc : SW H S n H := ⟨Kp.refl, wl⟩
  have fin : ∀ H' y m, SW H S m H' → m ≤ n + 20 → Thg K H' y → Q y H' := fun H' y m sc l t => q H' y sc.1 (sc.2.mono l) t
  walk_at "go"
  · exact fin _ _ _ (by assumption) (by omega) Thg.int
  · exact fin _ _ _ (by assumption) (by omega) Thg.bl
  · exact fin _ _ _ (by assumption) (by omega) Thg.str
  · exact fin _ _ _ (by assumption) (by omega) Thg.non
  · rename_i p1 np1 p2 np2 H5 r5 sc5 k5 _ _
    have s1 : p1 ∉ [S] := by walk_at "nm"
    have s2 : p2 ∉ [S] := by walk_at "nm"
    have h1 := k5.at_ s1 (show _ = some (HO.tup _) from (upd_ne (ne_of_none upd_same np2)).trans upd_same)
    have h2 := k5.at_ s2 (show _ = some (HO.tup _) from upd_same)
    have fl : ∀ (i j : Int) (H' : Hp), H' p1 = some (.tup [.int j, .non]) → ∀ y ∈ [V.int i, V.ref p1], Flt y ∨ ∃ b ys, y = .ref b ∧ SqT K H' b ys ∧ ∀ z ∈ ys, Flt z := fun i j H' h1 y hy => by
      simp only [List.mem_cons, List.not_mem_nil, or_false] at hy
      rcases hy with rfl | rfl
      · exact .inl (.inl ⟨_, rfl⟩)
      · refine .inr ⟨p1, _, rfl, SqT.of h1, fun z hz => ?_⟩
        simp only [List.mem_cons, List.not_mem_nil, or_false] at hz
        rcases hz with rfl | rfl
        · exact .inl ⟨_, rfl⟩
        · exact .inr rfl
    refine ⟨p2, _, rfl, SqT.of h2, fun _ => ?_, fun _ p np => ?_⟩
    · exact fin _ _ _ sc5 (by omega) (Thg.tup ⟨p2, _, rfl, SqT.of h2, fl _ _ _ h1⟩)
    · exact fin _ _ _ (sc5.new np) (by omega) (Thg.tup ⟨p, _, rfl, SqT.of upd_same, fun y hy => fl _ _ _ ((upd_ne (ne_of_none h1 np)).trans h1) y (List.mem_of_mem_drop (List.mem_of_mem_take hy))⟩)
  · rename_i H5 z5 sc5 k5 _ x5 dx5 nx ndx ne
    refine ⟨x5, dx5, z5, _, rfl, upd_same, fun H6 k6 h6 => ⟨rfl, ?_⟩⟩
    exact fin H6 _ _ (sc5.make nx ndx ne k6) (by omega) (Thg.ins h6 O.Case.eq O.Case.kb)
  · show sp_law_one K [.ref S, .ref L] _ _ _
    rename_i Ha ra sca ka _ _ Hb rb scb kb _ _ _ _ _ _ _ _
    exact oneL_go scb (by omega) (scb.1.sqL (nm_cons LS List.not_mem_nil) hL) x0 x1 LS fun H' y sc' k' hy => fin H' y _ sc' (by omega) ((hx y hy).kp sc'.1 wl.loose)
theorem val_at {kvs : List (L2.Key × V)} (nd : (kvs.map (·.1)).Nodup) {i : Nat} {k : L2.Key} {v : V} (h : kvs[i]? = some (k, v)) : valV kvs k = some v := by
  induction kvs generalizing i with
  | nil => simp at h
  | cons p r ih =>
    rw [List.map_cons, List.nodup_cons] at nd
    cases i with
    | zero =>
      simp only [List.getElem?_cons_zero, Option.some.injEq] at h
      subst h
      exact valV_pos rfl
    | succ j =>
      simp only [List.getElem?_cons_succ] at h
      have hm : k ∈ r.map (·.1) := List.mem_map.mpr ⟨(k, v), List.mem_of_getElem? h, rfl⟩
      rw [valV_neg fun e => nd.1 (by rw [e]; exact hm)]
      exact ih nd.2 h
theorem len_law_right (K : PySem.W.Frag) : ∀ vs H Q E, sp_law_right K vs H Q E → vs.length = ["_law_node", "_law_sort", "_law_due"].length := by
  intro _ _ _ _ h
  unfold sp_law_right at h
  obtain ⟨_, _, _, _, _, rfl, _⟩ := h
  rfl
theorem p_law_right (K : PySem.W.Frag) (C : Addr) (O : Own K C) (vs : List V) (H : Hp) (Q : VK) (E : XK) (h : sp_law_right K vs H Q E) : t_law_right K C { nx := fun _ H' => Q .non H', rt := Q } (start ["_law_node", "_law_sort", "_law_due", "_law_called"] vs) H := by
  unfold sp_law_right at h
  obtain ⟨x, z, D, F, kvs, rfl, ⟨a, dx, rfl, ha, hF⟩, hD, DF, nd, hth, hl, q⟩ := h
  obtain ⟨cl, n1, n2, _, _⟩ := O.Node
  walk_at "go"
  · exact absurd rfl (by assumption)
  · exact absurd rfl (by assumption)
  · walk_at "go"
    refine ⟨D, .dK kvs, hD, trivial, fun od => ⟨_, rfl, D, od, rfl, .inl ⟨kvs, upd_same, ?_⟩⟩⟩
    have aD : a ≠ D := fun e => by rw [e, hD] at ha; cases ha
    have FD : F ≠ D := DF.symm
    obtain ⟨G, hG⟩ : ∃ G, G = upd H D (.frz od (.dK kvs)) := ⟨_, rfl⟩
    have gD : G D = some (.frz od (.dK kvs)) := by rw [hG]; exact upd_same
    have ga : G a = some (.ins (cAt K "Node") dx [("kind", .str z), ("fields", .ref F)]) := by rw [hG]; exact (upd_ne aD).trans ha
    have gF : G F = some (.dK kvs) := by rw [hG]; exact (upd_ne FD).trans hF
    have kpE : Kp [D] H G := by rw [hG]; exact Kp.refl.upd_in List.mem_cons_self
    have lo : ∀ b ∈ [D], Loose H b := fun b hb => by
      rw [List.mem_singleton.mp hb]
      exact .inr (.inr (.inl ⟨_, hD⟩))
    rw [← hG]
    refine for_it walk_keys (fun i σ H' => H' = G ∧ ∃ u, σ = [some (.ref a), some (.str z), some (.ref D), u]) ⟨rfl, _, rfl⟩ (fun i σ H' _ h => by rw [h.1]; exact gD) ?_ (fun σ H' h => ?_)
    · rintro i x σ Ha Hb hi ⟨rfl, u, rfl⟩ ⟨rfl, k, v, hkv, rfl⟩
      have hv := val_at nd hkv
      have g1 : DGet Hb F (kV k) (some v) := hv ▸ DGet.k gF
      have g2 : DGet Hb D (kV k) (some v) := .inl ⟨kvs, k, .inr ⟨od, gD⟩, rfl, hv.symm⟩
      have tv : Thg K Hb v := (hth _ (List.mem_of_getElem? hkv)).kp kpE lo
      walk_at "go"
      refine ⟨F, _, rfl, g1, _, rfl, ?_⟩
      walk_at "go"
      refine ⟨F, v, rfl, g1, ?_⟩
      walk_at "go"
      refine ⟨D, v, rfl, g2, ?_⟩
      show sp_law_alike K [v, v] Hb _ _
      unfold sp_law_alike
      refine ⟨v, rfl, tv, ?_⟩
      walk_at "go"
      exact ⟨_, rfl⟩
    · obtain ⟨rfl, u, rfl⟩ := h
      refine ⟨gD, ?_⟩
      walk_at "go"
      refine q _ fun b o nb hb => ?_
      by_cases e : b = D
      · rw [e] at hb ⊢
        rw [hb] at hD
        cases hD
        exact upd_same
      · exact (upd_ne e).trans (kpE b o (fun z => e (List.mem_singleton.mp z)) hb)
end K11

/-! ## k11: a node made in one of four ways -/
namespace K11
open PySem PySem.Spec PyProof.Rows L2 Kb
theorem val_before {kvs : List (L2.Key × V)} (nd : (kvs.map (·.1)).Nodup) {i : Nat} {k : L2.Key} {v : V} (h : kvs[i]? = some (k, v)) : valV (kvs.take i) k = none := by
  unfold valV
  rw [List.find?_eq_none.mpr]
  · rfl
  · intro q hq e
    obtain ⟨j, hj, ej⟩ := List.getElem_of_mem hq
    rw [List.length_take] at hj
    rw [List.getElem_take] at ej
    have hi : i < kvs.length := (List.getElem?_eq_some_iff.mp h).1
    have ei := (List.getElem?_eq_some_iff.mp h).2
    have z := List.getElem_inj (xs := kvs.map (·.1)) (i := j) (j := i) (h₀ := by rw [List.length_map]; omega) (h₁ := by rw [List.length_map]; omega) nd
    rw [List.getElem_map, List.getElem_map, ej, ei] at z
    have := z.mp (by simpa using e)
    omega
theorem len_law_made (K : PySem.W.Frag) : ∀ vs H Q E, sp_law_made K vs H Q E → vs.length = ["_law_way", "_law_sort", "_law_due"].length := by
  intro _ _ _ _ h
  unfold sp_law_made at h
  obtain ⟨_, _, _, _, rfl, _⟩ := h
  rfl
theorem p_law_made (K : PySem.W.Frag) (C : Addr) (O : Own K C) (vs : List V) (H : Hp) (Q : VK) (E : XK) (h : sp_law_made K vs H Q E) : t_law_made K C { nx := fun _ H' => Q .non H', rt := Q } (start ["_law_way", "_law_sort", "_law_due", "_law_handed", "_law_node", "_law_at", "_law_called"] vs) H := by
  unfold sp_law_made at h
  obtain ⟨w, z, D, kvs, rfl, hD, nd, hl, q⟩ := h
  obtain ⟨cl, n1, n2, _, _⟩ := O.Node
  walk_at "go"
  · show rDictU K [.ref D] H _
    refine dict_go (kvs := kvs) ⟨D, rfl, .inl hD⟩ fun p np => ?_
    walk_at "go"
    rename_i x dx nx nd' ne
    show sp_Node___init__ K [.ref x, .str z, .ref p] _ _ _
    refine node_go nx nd' ne (kvs := kvs) ⟨p, rfl, .inl upd_same⟩ fun H2 F k2 nF Fx hx hF => ⟨rfl, ?_⟩
    have hp2 : H2 p = some (.dK kvs) := k2.at_ List.not_mem_nil upd_same
    have xp : x ≠ p := fun e => by rw [e, upd_same] at nx; cases nx
    have Fp : F ≠ p := fun e => by rw [e, upd_same] at nF; cases nF
    rw [upd_ne xp] at nx
    rw [upd_ne Fp] at nF
    walk_at "go"
    refine ⟨.inr (.inr (.inl ⟨rfl, .inl ⟨kvs, hp2⟩⟩)), p, kvs, rfl, rfl, hp2, ?_⟩
    walk_at "go"
    exact q _ x F (((Kp.refl.upd_new' np).trans k2).upd_new np) nx nF ⟨x, dx, rfl, (upd_ne xp).trans hx, (upd_ne Fp).trans hF⟩
  · refine ⟨D, kvs, rfl, hD, fun H1 p ts k1 nP nts pts hP hts => ?_⟩
    have K1 : Kp [] H H1 := fun b o _ e => k1 b o e
    walk_at "go"
    rename_i x dx nx nd' ne
    show sp_Node___init__ K [.ref x, .str z, .ref p] _ _ _
    refine node_go nx nd' ne (kvs := kvs) ⟨p, rfl, .inr (.inl ⟨ts, kvs, SqL.of hP, paired_imp (fun _ _ r => SqT.of r) hts, (mergeK_self kvs [] nd).symm⟩)⟩ fun H2 F k2 nF Fx hx hF => ⟨rfl, ?_⟩
    have hp2 : H2 p = some (.lst (ts.map V.ref)) := k2.at_ List.not_mem_nil hP
    have xp : x ≠ p := fun e => by rw [e, hP] at nx; cases nx
    have Fp : F ≠ p := fun e => by rw [e, hP] at nF; cases nF
    walk_at "go"
    refine ⟨p, _, rfl, rfl, hp2, ?_⟩
    walk_at "go"
    exact q _ x F ((K1.trans k2).upd_new nP) (K1.none_of List.not_mem_nil nx) (K1.none_of List.not_mem_nil nF) ⟨x, dx, rfl, (upd_ne xp).trans hx, (upd_ne Fp).trans hF⟩
  · refine ⟨D, kvs, rfl, hD, fun H1 p ts k1 nP hP hts => ?_⟩
    have K1 : Kp [] H H1 := fun b o _ e => k1 b o e
    walk_at "go"
    rename_i x dx nx nd' ne
    show sp_Node___init__ K [.ref x, .str z, .ref p] _ _ _
    refine node_go nx nd' ne (kvs := kvs) ⟨p, rfl, .inr (.inr ⟨ts, kvs, .inl hP, paired_imp (fun _ _ r => SqT.of r) hts, (mergeK_self kvs [] nd).symm⟩)⟩ fun H2 F k2 nF Fx hx hF => ⟨rfl, ?_⟩
    exact q _ x F (K1.trans k2) (K1.none_of List.not_mem_nil nx) (K1.none_of List.not_mem_nil nF) ⟨x, dx, rfl, hx, hF⟩
  · rename_i x dx nx nd' ne
    show sp_Node___init__ K [.ref x, .str z, .ref C] _ _ _
    obtain ⟨n0, s0, hC⟩ := O.nil
    refine node_go nx nd' ne (kvs := []) ⟨C, rfl, .inr (.inr ⟨[], [], .inr ⟨[], n0, s0, hC, Nat.zero_le _, .nil⟩, .nil, rfl⟩)⟩ fun H2 F k2 nF Fx hx hF => ⟨rfl, ?_⟩
    have hD2 : H2 D = some (.dK kvs) := k2.at_ List.not_mem_nil hD
    have xD : x ≠ D := fun e => by rw [e, hD] at nx; cases nx
    have FD : F ≠ D := fun e => by rw [e, hD] at nF; cases nF
    walk_at "go"
    refine ⟨D, .dK kvs, hD2, trivial, fun od => ?_⟩
    obtain ⟨G, hG⟩ : ∃ G, G = upd H2 D (.frz od (.dK kvs)) := ⟨_, rfl⟩
    have gD : G D = some (.frz od (.dK kvs)) := by rw [hG]; exact upd_same
    have gx : G x = some (.ins (cAt K "Node") dx [("kind", .str z), ("fields", .ref F)]) := by rw [hG]; exact (upd_ne xD).trans hx
    have gF : G F = some (.dK []) := by rw [hG]; exact (upd_ne FD).trans hF
    have kG : Kp [D] H2 G := by rw [hG]; exact Kp.refl.upd_in List.mem_cons_self
    rw [← hG]
    show iEnumD (tVar 2) _ _ _
    unfold iEnumD
    refine ⟨_, rfl, D, od, kvs, rfl, gD, ?_⟩
    refine for_it (walk_enumS (xs := kvs.map fun kv => kV kv.1)) (fun i σ H' => Kp [F] G H' ∧ H' F = some (.dK (kvs.take i)) ∧ ∃ u v, σ = [some (.int w), some (.str z), some (.ref D), none, some (.ref x), u, v]) ⟨Kp.refl, gF, _, _, rfl⟩ (fun i σ H' _ h => ⟨kvs, h.1.at_ (nm_cons FD.symm List.not_mem_nil) gD, rfl⟩) ?_ (fun σ H' h => ?_)
    · rintro i e σ Ha Hb hi ⟨ka, ha, u, v, rfl⟩ ⟨T, y, rfl, nT, rfl, hy⟩
      rw [List.getElem?_map] at hy
      obtain ⟨⟨k, v1⟩, hkv, rfl⟩ := Option.map_eq_some_iff.mp hy
      have nTG : T ∉ [F] := fun m => by rw [List.mem_singleton.mp m, ha] at nT; cases nT
      have gx1 := ka.at_ (nm_cons Fx.symm List.not_mem_nil) gx
      have gD1 := ka.at_ (nm_cons FD.symm List.not_mem_nil) gD
      have kT := ka.upd_new' (o := .tup [.int (0 + (i : Nat)), kV k]) nT
      have gx2 := kT.at_ (nm_cons Fx.symm List.not_mem_nil) gx
      have gD2 := kT.at_ (nm_cons FD.symm List.not_mem_nil) gD
      have gF2 : (upd Ha T (.tup [.int (0 + (i : Nat)), kV k])) F = some (.dK (kvs.take i)) := (upd_ne (ne_of_none ha nT)).trans ha
      have dg : DGet (upd Ha T (.tup [.int (0 + (i : Nat)), kV k])) D (kV k) (some v1) := .inl ⟨kvs, k, .inr ⟨od, gD2⟩, rfl, (val_at nd hkv).symm⟩
      have fin : Kp [F] G (upd (upd Ha T (.tup [.int (0 + (i : Nat)), kV k])) F (.dK (putK (kvs.take i) k v1))) ∧ (upd (upd Ha T (.tup [.int (0 + (i : Nat)), kV k])) F (.dK (putK (kvs.take i) k v1))) F = some (.dK (kvs.take (i + 1))) := by
        refine ⟨kT.upd_in List.mem_cons_self, ?_⟩
        rw [upd_same, putK_new v1 (val_before nd hkv), List.take_succ, hkv]
        rfl
      have hl2 : (kvs.take i).length < 16777216 := by rw [List.length_take]; omega
      obtain ⟨Hb, eb⟩ : ∃ Hb, Hb = upd Ha T (.tup [.int (0 + (i : Nat)), kV k]) := ⟨_, rfl⟩
      have hT : Hb T = some (.tup [.int (0 + (i : Nat)), kV k]) := by rw [eb]; exact upd_same
      rw [← eb] at gx2 gD2 gF2 dg fin ⊢
      walk_at "go"
      · refine ⟨D, v1, rfl, dg, x, dx, z, F, kvs.take i, k, v1, rfl, gx2, gF2, hl2, ?_⟩
        exact ⟨fin.1, fin.2, _, _, rfl⟩
      · refine ⟨D, v1, rfl, dg, ?_⟩
        walk_at "go"
        refine ⟨x, dx, z, F, kvs.take i, k, v1, rfl, gx2, gF2, hl2, ?_⟩
        exact ⟨fin.1, fin.2, _, _, rfl⟩
    · obtain ⟨ka, ha, u, v, rfl⟩ := h
      refine ⟨ka.at_ (nm_cons FD.symm List.not_mem_nil) gD, ?_⟩
      walk_at "go"
      rw [List.length_map, List.take_length] at ha
      refine q _ x F (fun b o _ hb => ?_) nx nF ⟨x, dx, rfl, (upd_ne xD).trans (ka.at_ (nm_cons Fx.symm List.not_mem_nil) gx), (upd_ne FD).trans ha⟩
      by_cases e : b = D
      · rw [e] at hb ⊢
        rw [hb] at hD
        cases hD
        exact upd_same
      · have bF : b ≠ F := fun e => by rw [e, nF] at hb; cases hb
        exact (upd_ne e).trans (ka b o (nm_cons bF List.not_mem_nil) (kG b o (nm_cons e List.not_mem_nil) (k2 b o List.not_mem_nil hb)))
end K11

/-! ## k11: cases looked at -/
namespace K11
open PySem PySem.Spec PyProof.Rows L2 Kb
theorem len_law_cases_right (K : PySem.W.Frag) : ∀ vs H Q E, sp_law_cases_right K vs H Q E → vs.length = ["_law_well_here"].length := by
  intro _ _ _ _ h
  unfold sp_law_cases_right at h
  obtain ⟨_, _, rfl, _⟩ := h
  rfl
theorem p_law_cases_right (K : PySem.W.Frag) (C : Addr) (O : Own K C) (vs : List V) (H : Hp) (Q : VK) (E : XK) (h : sp_law_cases_right K vs H Q E) : t_law_cases_right K C { nx := fun _ H' => Q .non H', rt := Q } (start ["_law_well_here", "_law_text_here", "_law_what", "_law_some", "_law_one_here"] vs) H := by
  unfold sp_law_cases_right at h
  obtain ⟨S, n, rfl, wl, hn, q⟩ := h
  have sc : SW H S n H := ⟨Kp.refl, wl⟩
  obtain ⟨cl, n1, n2, pc, kb⟩ := O.Case
  obtain ⟨cl', n1', n2', pc', kb'⟩ := O.Node
  obtain ⟨n0, s0, hC⟩ := O.nil
  walk_at "go"
  rename_i H1 z1 sc1 k1 h0 p1 np1 p2 np2 x dx nx nd ne
  have sc2 := (sc1.new (o := .tup []) np1).new (o := .tup [.int 1, .int 2]) np2
  have t1 : (upd (upd H1 p1 (.tup [])) p2 (.tup [.int 1, .int 2])) p1 = some (.tup []) := (upd_ne (ne_of_none upd_same np2)).trans upd_same
  have t2 : (upd (upd H1 p1 (.tup [])) p2 (.tup [.int 1, .int 2])) p2 = some (.tup [.int 1, .int 2]) := upd_same
  generalize (upd (upd H1 p1 (HO.tup [])) p2 (HO.tup [V.int 1, V.int 2])) = G at sc2 t1 t2 nx nd ⊢
  show sp_Node___init__ K [.ref x, .str (PySem.Str.ofString "k"), .ref C] _ _ _
  refine node_go nx nd ne (kvs := []) ⟨C, rfl, .inr (.inr ⟨[], [], .inr ⟨[], n0, s0, hC, Nat.zero_le _, .nil⟩, .nil, rfl⟩)⟩ fun H2 F k2 nF Fx hx hF => ⟨rfl, ?_⟩
  have sc3 := sc2.kp k2
  have u1 := k2.at_ List.not_mem_nil t1
  have u2 := k2.at_ List.not_mem_nil t2
  walk_at "go"
  rename_i L nL
  have sc4 := sc3.new (o := .lst [.int 0, .bl false, .str (PySem.Str.ofString ""), .ref p1, .non, .str (PySem.Str.ofString "x"), .ref p2, .ref x]) nL
  refine oneL_go sc4 (by omega) (SqL.of upd_same) (by simp) (by simp only [List.length_cons, List.length_nil]; decide) (sc3.2.ne nL) fun H5 y sc5 k5 hy => ?_
  have ty : Thg K H5 y := by
    have lo := sc4.2.loose
    have v1 := (upd_ne (o := .lst [.int 0, .bl false, .str (PySem.Str.ofString ""), .ref p1, .non, .str (PySem.Str.ofString "x"), .ref p2, .ref x]) (ne_of_none u1 nL)).trans u1
    have v2 := (upd_ne (o := .lst [.int 0, .bl false, .str (PySem.Str.ofString ""), .ref p1, .non, .str (PySem.Str.ofString "x"), .ref p2, .ref x]) (ne_of_none u2 nL)).trans u2
    have v3 := (upd_ne (o := .lst [.int 0, .bl false, .str (PySem.Str.ofString ""), .ref p1, .non, .str (PySem.Str.ofString "x"), .ref p2, .ref x]) (ne_of_none hx nL)).trans hx
    refine Thg.kp ?_ k5 lo
    simp only [List.mem_cons, List.not_mem_nil, or_false] at hy
    rcases hy with rfl | rfl | rfl | rfl | rfl | rfl | rfl | rfl
    · exact Thg.int
    · exact Thg.bl
    · exact Thg.str
    · exact Thg.tup ⟨_, _, rfl, SqT.of v1, fun z hz => nomatch hz⟩
    · exact Thg.non
    · exact Thg.str
    · refine Thg.tup ⟨_, _, rfl, SqT.of v2, fun z hz => .inl ?_⟩
      simp only [List.mem_cons, List.not_mem_nil, or_false] at hz
      rcases hz with rfl | rfl <;> exact .inl ⟨_, rfl⟩
    · exact Thg.ins v3 pc' kb'
  have K5 := sc5.1
  clear hy k5 sc5 sc4 nL L u1 u2 sc3 hx hF Fx nF k2 F t1 t2 nx nd ne sc2
  walk_at "go"
  rename_i x1 d1 nx1 nd1 ne1
  show sp_Case___init__ K [.ref x1, .str z1, y] _ _ _
  refine case_go nx1 nd1 fun H6 k6 h6 => ⟨rfl, ?_⟩
  walk_at "go"
  rename_i x2 d2 nx2 nd2 ne2
  show sp_Case___init__ K [.ref x2, .str z1, y] _ _ _
  refine case_go nx2 nd2 fun H7 k7 h7 => ⟨rfl, ?_⟩
  walk_at "go"
  rename_i x3 d3 nx3 nd3 ne3
  show sp_Case___init__ K [.ref x3, .str z1, y] _ _ _
  refine case_go nx3 nd3 fun H8 k8 h8 => ⟨rfl, ?_⟩
  have K6 := k6.mono (N := [S]) fun a z => nomatch z
  have K7 := k7.mono (N := [S]) fun a z => nomatch z
  have K8 := k8.mono (N := [S]) fun a z => nomatch z
  have KA : Kp [S] H H8 := ((K5.trans K6).trans K7).trans K8
  have g6 : H8 x1 = some (.ins (cAt K "Case") d1 [("word", .str z1), ("content", y)]) := k8.at_ List.not_mem_nil (k7.at_ List.not_mem_nil h6)
  have g7 : H8 x2 = some (.ins (cAt K "Case") d2 [("word", .str z1), ("content", y)]) := k8.at_ List.not_mem_nil h7
  have t8 : Thg K H8 y := ((ty.kp0 k6).kp0 k7).kp0 k8
  clear k6 k7 k8 h6 h7 K6 K7 K8 nx1 nx2 nx3 nd1 nd2 nd3 ne1 ne2 ne3 ty K5
  walk_at "go"
  rename_i L nL
  have G6 := (upd_ne (o := .lst [.ref x1, .ref x2, .ref x3]) (ne_of_none g6 nL)).trans g6
  have G7 := (upd_ne (o := .lst [.ref x1, .ref x2, .ref x3]) (ne_of_none g7 nL)).trans g7
  have G8 := (upd_ne (o := .lst [.ref x1, .ref x2, .ref x3]) (ne_of_none h8 nL)).trans h8
  have GL : (upd H8 L (.lst [.ref x1, .ref x2, .ref x3])) L = some (.lst [.ref x1, .ref x2, .ref x3]) := upd_same
  have GT : Thg K (upd H8 L (.lst [.ref x1, .ref x2, .ref x3])) y := t8.kp0 (Kp.refl.upd_new' nL)
  have KB := KA.upd_new' (o := .lst [.ref x1, .ref x2, .ref x3]) nL
  generalize upd H8 L (.lst [.ref x1, .ref x2, .ref x3]) = G at G6 G7 G8 GL GT KB ⊢
  refine ⟨⟨_, SqL.of GL⟩, fun D nD => ?_⟩
  have al : ∀ (i : Nat) (x : V), [V.ref x1, .ref x2, .ref x3][i]? = some x → ∃ xi di, x = .ref xi ∧ G xi = some (.ins (cAt K "Case") di [("word", .str z1), ("content", y)]) := fun i x e => by
    have := List.mem_of_getElem? e
    simp only [List.mem_cons, List.not_mem_nil, or_false] at this
    rcases this with rfl | rfl | rfl
    · exact ⟨_, _, rfl, G6⟩
    · exact ⟨_, _, rfl, G7⟩
    · exact ⟨_, _, rfl, G8⟩
  refine lc_acc (walk_list (xs := [.ref x1, .ref x2, .ref x3])) (fun i acc H' => acc = [] ∧ H' = upd G D (.lst [])) ⟨rfl, rfl⟩ (fun i acc H' _ h => by rw [h.2]; exact SqL.of ((upd_ne (ne_of_none GL nD)).trans GL)) (fun i x acc Hc Hb hi hl hD hP hY => ?_) (fun acc Hc hl hD hP => ?_)
  · obtain ⟨rfl, rfl⟩ := hP
    obtain ⟨rfl, e⟩ := hY
    obtain ⟨xi, di, rfl, hx⟩ := al i x e
    have hx2 := (upd_ne (o := .lst []) (ne_of_none hx nD)).trans hx
    have t2 : Thg K (upd G D (.lst [])) y := GT.kp0 (Kp.refl.upd_new' nD)
    refine ⟨rfl, ?_⟩
    walk_at "go"
    · exact absurd rfl (by assumption)
    · show sp_law_alike K [y, y] (upd G D (.lst [])) _ _
      unfold sp_law_alike
      refine ⟨y, rfl, t2, ?_⟩
      walk_at "go"
      exact ⟨[], Nat.zero_le _, upd_same, rfl, rfl⟩
  · obtain ⟨rfl, rfl⟩ := hP
    walk_at "go"
    rename_i p np
    refine neI0_go (xs := []) (SqL.of (by walk_at "h")) (SqL.of upd_same) ?_
    walk_at "go"
    rename_i x4 d4 nx4 nd4 ne4
    show sp_Case___init__ K [.ref x4, .str z1, .non] _ _ _
    refine case_go nx4 nd4 fun H9 k9 h9 => ⟨rfl, ?_⟩
    have K9 := ((KB.upd_new' nD).upd_new' np).trans (k9.mono (N := [S]) fun a z => nomatch z)
    walk_at "go"
    rename_i x5 d5 nx5 nd5 ne5
    show sp_Case___init__ K [.ref x5, .str z1, .non] _ _ _
    refine case_go nx5 nd5 fun H10 k10 h10 => ⟨rfl, ?_⟩
    walk_at "go"
    rw [decide_eq_true rfl]
    exact q _ (K9.trans (k10.mono (N := [S]) fun a z => nomatch z))
end K11

/-! ## k11: the law -/
namespace K11
open PySem PySem.Spec PyProof.Rows L2 Kb
/-! dicts' keys and things -/
section
variable {κ : Type} [DecidableEq κ]
theorem keys_put {kvs : List (κ × V)} {k : κ} {v : V} (h : (kvs.map (·.1)).Nodup) : ((putK kvs k v).map (·.1)).Nodup := by
  unfold putK
  split
  · rw [List.map_map]
    have e : ((fun x => x.1) ∘ fun kv : κ × V => if kv.1 = k then (kv.1, v) else kv) = fun x => x.1 := by
      funext kv
      show (if kv.1 = k then (kv.1, v) else kv).1 = kv.1
      split <;> rfl
    rw [e]
    exact h
  · rename_i ha
    rw [List.map_append, List.nodup_append]
    refine ⟨h, by simp, fun a m b mb e => ha ?_⟩
    simp only [List.map_cons, List.map_nil, List.mem_singleton] at mb
    obtain ⟨kv, hk, rfl⟩ := List.mem_map.mp m
    exact List.any_eq_true.mpr ⟨kv, hk, by simp [e, mb]⟩
theorem vals_put {kvs : List (κ × V)} {k : κ} {v : V} {P : V → Prop} (h : ∀ kv ∈ kvs, P kv.2) (hv : P v) : ∀ kv ∈ putK kvs k v, P kv.2 := by
  unfold putK
  split
  · intro kv m
    obtain ⟨kv0, m0, rfl⟩ := List.mem_map.mp m
    split
    · exact hv
    · exact h _ m0
  · intro kv m
    rcases List.mem_append.mp m with m | m
    · exact h _ m
    · rw [List.mem_singleton.mp m]
      exact hv
end
theorem merge_all {P : V → Prop} : ∀ (more kvs : List (L2.Key × V)), (kvs.map (·.1)).Nodup → (∀ kv ∈ kvs, P kv.2) → (∀ kv ∈ more, P kv.2) → ((mergeK kvs more).map (·.1)).Nodup ∧ (∀ kv ∈ mergeK kvs more, P kv.2) ∧ (mergeK kvs more).length ≤ kvs.length + more.length
  | [], kvs, n, a, _ => ⟨n, a, Nat.le_refl _⟩
  | (k, v) :: r, kvs, n, a, b => by
    obtain ⟨h1, h2, h3⟩ := merge_all r (putK kvs k v) (keys_put n) (vals_put a (b (k, v) List.mem_cons_self)) fun kv m => b kv (List.mem_cons_of_mem _ m)
    refine ⟨h1, h2, ?_⟩
    have := length_putK kvs k v
    show (mergeK (putK kvs k v) r).length ≤ _
    simp only [List.length_cons]
    omega
/-! a row: a node, its kind, its dict and the law's own one -/
structure Row where
  x : Addr
  dx : Addr
  z : Str
  F : Addr
  D : Addr
  kvs : List (L2.Key × V)
structure RowOk (K : PySem.W.Frag) (m : Nat) (H : Hp) (r : Row) : Prop where
  hx : H r.x = some (.ins (cAt K "Node") r.dx [("kind", .str r.z), ("fields", .ref r.F)])
  hF : H r.F = some (.dK r.kvs)
  hD : H r.D = some (.dK r.kvs)
  ne : r.D ≠ r.F
  nd : (r.kvs.map (·.1)).Nodup
  th : ∀ kv ∈ r.kvs, Thg K H kv.2
  le : r.kvs.length ≤ m
def Blk (K : PySem.W.Frag) (H : Hp) (x : Addr) (z : Str) (F : Addr) : Prop := ∃ dx, H x = some (.ins (cAt K "Node") dx [("kind", .str z), ("fields", .ref F)]) ∧ H F = some (.dK [])
/-- how a turn of the law stands -/
structure G (K : PySem.W.Frag) (H0 : Hp) (S B L U T b1 F1 b2 F2 : Addr) (rows : List Row) (m n : Nat) (H : Hp) : Prop where
  kp : Kp [] H0 H
  wel : Wel H S n
  hB : H B = some (.lst [.ref b1, .ref b2])
  hL : H L = some (.lst (rows.map fun r => .ref r.x))
  hU : H U = some (.lst (rows.map fun r => .ref r.D))
  hT : H T = some (.lst (rows.map fun r => .str r.z))
  ok : ∀ r ∈ rows, RowOk K m H r
  k1 : Blk K H b1 "z" F1
  k2 : Blk K H b2 "y" F2
  nd : ((rows.flatMap fun r => [r.F, r.D]) ++ [F1, F2]).Nodup
  ne : [S, B, L, U, T].Nodup
  new : ∀ p ∈ [S, B, L, U, T], H0 p = none
  newR : ∀ r ∈ rows, H0 r.F = none ∧ H0 r.D = none
  len : rows.length ≤ 3
section
variable {K : PySem.W.Frag} {H0 H H' : Hp} {S B L U T b1 F1 b2 F2 p : Addr} {rows : List Row} {m n n' : Nat} {M : List Addr} {o : HO}
theorem RowOk.kp {r : Row} (h : RowOk K m H r) (k : Kp M H H') (l : ∀ b ∈ M, Loose H b) (mF : r.F ∉ M) (mD : r.D ∉ M) : RowOk K m H' r :=
  ⟨k _ _ (fun z => (l _ z).not h.hx (fun _ e => by cases e) (fun _ e => by cases e) fun _ _ e => by cases e) h.hx, k _ _ mF h.hF, k _ _ mD h.hD, h.ne, h.nd, fun kv q => (h.th kv q).kp k l, h.le⟩
theorem Blk.kp {x F : Addr} {z : Str} (h : Blk K H x z F) (k : Kp M H H') (l : ∀ b ∈ M, Loose H b) (mF : F ∉ M) : Blk K H' x z F := by
  obtain ⟨dx, h1, h2⟩ := h
  exact ⟨dx, k _ _ (fun z => (l _ z).not h1 (fun _ e => by cases e) (fun _ e => by cases e) fun _ _ e => by cases e) h1, k _ _ mF h2⟩
/-- all that a list's change leaves as it is: what is a list stays another one -/
theorem lst_ne {a b : Addr} {xs : List V} {kvs : List (L2.Key × V)} (ha : H a = some (.lst xs)) (hb : H b = some (.dK kvs)) : b ≠ a := fun e => by
  rw [e, ha] at hb
  cases hb
/-- the well alone is otherwise -/
theorem G.kpS (g : G K H0 S B L U T b1 F1 b2 F2 rows m n H) (k : Kp [S] H H') (w : Wel H' S n') : G K H0 S B L U T b1 F1 b2 F2 rows m n' H' := by
  obtain ⟨xs, hS⟩ := g.wel.lst
  have lo := g.wel.loose
  have ne := g.ne
  simp only [List.nodup_cons, List.mem_cons, List.not_mem_nil, or_false, not_or] at ne
  have hd : ∀ {b : Addr} {kvs : List (L2.Key × V)}, H b = some (.dK kvs) → b ∉ [S] := fun h q => lst_ne hS h (List.mem_singleton.mp q)
  obtain ⟨d1, k11, k12⟩ := g.k1
  obtain ⟨d2, k21, k22⟩ := g.k2
  exact { g with
    kp := g.kp.drop k fun a q => .inr (by rw [List.mem_singleton.mp q]; exact g.new S List.mem_cons_self)
    wel := w
    hB := k _ _ (by simp; exact fun e => ne.1.1 e.symm) g.hB
    hL := k _ _ (by simp; exact fun e => ne.1.2.1 e.symm) g.hL
    hU := k _ _ (by simp; exact fun e => ne.1.2.2.1 e.symm) g.hU
    hT := k _ _ (by simp; exact fun e => ne.1.2.2.2 e.symm) g.hT
    ok := fun r q => (g.ok r q).kp k lo (hd (g.ok r q).hF) (hd (g.ok r q).hD)
    k1 := g.k1.kp k lo (hd k12)
    k2 := g.k2.kp k lo (hd k22) }
theorem G.kp0 (g : G K H0 S B L U T b1 F1 b2 F2 rows m n H) (k : Kp [] H H') : G K H0 S B L U T b1 F1 b2 F2 rows m n H' :=
  g.kpS (k.mono fun a z => nomatch z) (g.wel.kp k List.not_mem_nil)
theorem G.mono (g : G K H0 S B L U T b1 F1 b2 F2 rows m n H) (l : n ≤ n') : G K H0 S B L U T b1 F1 b2 F2 rows m n' H := { g with wel := g.wel.mono l }
theorem G.sw (g : G K H0 S B L U T b1 F1 b2 F2 rows m n H) : SW H S n H := ⟨Kp.refl, g.wel⟩
end
def Sg (a S B L U T : Addr) (σ : L2.St) : Prop := ∃ u1 u3 u8 u9 u10 u11 u12 u13 u14 u15 u16, σ = [some (.ref a), u1, some (.ref S), u3, some (.ref B), some (.ref L), some (.ref U), some (.ref T), u8, u9, u10, u11, u12, u13, u14, u15, u16]
section
variable {K : PySem.W.Frag} {C : Addr} {D : Ends} {σ : L2.St} {H0 H H' : Hp} {a S B L U T b1 F1 b2 F2 p : Addr} {rows : List Row} {m n n' : Nat}
theorem walk_zip3 {a b c : Addr} {xs ys zs : List V} (h1 : ys.length = xs.length) (h2 : zs.length = xs.length) : Walk (Itz3 K a b c) xs.length (fun H => SqL K H a xs ∧ SqL K H b ys ∧ SqL K H c zs)
    (fun i H v H' => ∃ T x y z, v = .ref T ∧ H T = none ∧ H' = L2.upd H T (.tup [x, y, z]) ∧ xs[i]? = some x ∧ ys[i]? = some y ∧ zs[i]? = some z) := by
  refine ⟨fun i _ hi q => ⟨xs, ys, zs, xs[i], ys[i], zs[i], q, ?_, ?_, ?_⟩, fun _ q => ⟨xs, ys, zs, q, rfl, h1, h2⟩, fun i H v H' _ q y => ?_⟩
  · simp [hi]
  · have : i < ys.length := by omega
    simp [this]
  · have : i < zs.length := by omega
    simp [this]
  · obtain ⟨T, x, y, z, r1, r2, r3, r4, r5, r6⟩ := y
    exact ⟨T, x, y, z, r1, r2, r3, r4 xs q.1, r5 ys q.2.1, r6 zs q.2.2⟩
theorem right_go {x F d : Addr} {z : Str} {kvs : List (L2.Key × V)} {Q : VK} {E : XK} (hn : Nd K H (.ref x) z F kvs) (hD : H d = some (.dK kvs)) (ne : d ≠ F) (nd : (kvs.map (·.1)).Nodup) (th : ∀ kv ∈ kvs, Thg K H kv.2) (le : kvs.length ≤ 1000) (q : ∀ H', Kp [] H H' → Q (.bl true) H') : sp_law_right K [.ref x, .str z, .ref d] H Q E := by
  unfold sp_law_right
  exact ⟨.ref x, z, d, F, kvs, rfl, hn, hD, ne, nd, th, le, q⟩
theorem bl4 (g : G K H0 S B L U T b1 F1 b2 F2 rows m n H) (hn : n ≤ 1000000) (hm : m ≤ 1000) (sg : Sg a S B L U T σ) (q : ∀ σ' H', Kp [] H0 H' → Sg a S B L U T σ' → D.nx σ' H') : b_law_4 K C D σ H := by
  obtain ⟨u1, u3, u8, u9, u10, u11, u12, u13, u14, u15, u16, rfl⟩ := sg
  unfold b_law_4
  walk_at "go"
  refine ⟨L, T, U, _, _, _, rfl, SqL.of g.hL, SqL.of g.hT, SqL.of g.hU, ?_⟩
  refine for_it (walk_zip3 (xs := rows.map fun r => .ref r.x) (ys := rows.map fun r => .str r.z) (zs := rows.map fun r => .ref r.D) (by simp) (by simp)) (fun i σ H' => Kp [] H H' ∧ Sg a S B L U T σ) ⟨Kp.refl, _, _, _, _, _, _, _, _, _, _, _, rfl⟩ (fun i σ H' _ h => ⟨SqL.of (h.1.at_ List.not_mem_nil g.hL), SqL.of (h.1.at_ List.not_mem_nil g.hT), SqL.of (h.1.at_ List.not_mem_nil g.hU)⟩) ?_ (fun σ H' h => ?_)
  · rintro i e σ Ha Hb hi ⟨ka, sg⟩ ⟨Tz, x, y, z, rfl, nT, rfl, e1, e2, e3⟩
    rw [List.getElem?_map] at e1 e2 e3
    obtain ⟨r, er, rfl⟩ := Option.map_eq_some_iff.mp e1
    rw [er] at e2 e3
    cases e2
    cases e3
    obtain ⟨u1, u3, u8, u9, u10, u11, u12, u13, u14, u15, u16, rfl⟩ := sg
    have kb := ka.upd_new' (o := .tup [.ref r.x, .str r.z, .ref r.D]) nT
    have rk := ((g.kp0 kb).ok r (List.mem_of_getElem? er))
    have hT : (L2.upd Ha Tz (.tup [.ref r.x, .str r.z, .ref r.D])) Tz = some (.tup [.ref r.x, .str r.z, .ref r.D]) := upd_same
    generalize L2.upd Ha Tz (.tup [.ref r.x, .str r.z, .ref r.D]) = Hb at kb rk hT ⊢
    walk_at "go"
    show sp_law_right K [.ref r.x, .str r.z, .ref r.D] _ _ _
    refine right_go ⟨_, _, rfl, rk.hx, rk.hF⟩ rk.hD rk.ne rk.nd rk.th (Nat.le_trans rk.le hm) fun H' k' => ?_
    walk_at "go"
    exact ⟨kb.trans k', _, _, _, _, _, _, _, _, _, _, _, rfl⟩
  · obtain ⟨ka, sg⟩ := h
    obtain ⟨u1, u3, u8, u9, u10, u11, u12, u13, u14, u15, u16, rfl⟩ := sg
    have g1 := g.kp0 ka
    walk_at "go"
    show sp_law_cases_right K [.ref S] _ _ _
    unfold sp_law_cases_right
    refine ⟨S, n, rfl, g1.wel, by omega, fun H5 k5 => ?_⟩
    obtain ⟨ws, hS⟩ := g1.wel.lst
    have lo := g1.wel.loose
    have ne := g1.ne
    simp only [List.nodup_cons, List.mem_cons, List.not_mem_nil, or_false, not_or] at ne
    have hd : ∀ {b : Addr} {kvs : List (L2.Key × V)}, H' b = some (.dK kvs) → b ∉ [S] := fun h q => lst_ne hS h (List.mem_singleton.mp q)
    obtain ⟨_, _, k12⟩ := g1.k1
    obtain ⟨_, _, k22⟩ := g1.k2
    have b1k := g1.k1.kp k5 lo (hd k12)
    have b2k := g1.k2.kp k5 lo (hd k22)
    have hB := k5.at_ (by simp; exact fun e => ne.1.1 e.symm) g1.hB
    have K5 : Kp [] H0 H5 := g1.kp.drop k5 fun a q => .inr (by rw [List.mem_singleton.mp q]; exact g1.new S List.mem_cons_self)
    walk_at "go"
    rename_i p1 np1
    obtain ⟨d1, b11, b12⟩ := b1k
    have F1p : F1 ≠ p1 := ne_of_none b12 np1
    refine right_go (kvs := []) ⟨_, _, rfl, (upd_ne (ne_of_none b11 np1)).trans b11, (upd_ne F1p).trans b12⟩ upd_same F1p.symm (by simp) (fun kv m => nomatch m) (by simp) fun H6 k6 => ?_
    have K6 := (Kp.refl.upd_new' (o := .dK []) np1).trans k6
    have hB6 := K6.at_ List.not_mem_nil hB
    walk_at "go"
    rename_i p2 np2
    obtain ⟨d2, b21, b22⟩ := b2k
    have b21' := K6.at_ List.not_mem_nil b21
    have b22' := K6.at_ List.not_mem_nil b22
    have F2p : F2 ≠ p2 := ne_of_none b22' np2
    refine right_go (kvs := []) ⟨_, _, rfl, (upd_ne (ne_of_none b21' np2)).trans b21', (upd_ne F2p).trans b22'⟩ upd_same F2p.symm (by simp) (fun kv m => nomatch m) (by simp) fun H7 k7 => ?_
    walk_at "go"
    exact q _ _ ((K5.trans K6).trans ((Kp.refl.upd_new' np2).trans k7)) ⟨_, _, _, _, _, _, _, _, _, _, _, rfl⟩
/-- a row's dicts are otherwise -/
theorem G.put {l1 l2 : List Row} {r : Row} (g : G K H0 S B L U T b1 F1 b2 F2 (l1 ++ r :: l2) m n H) {k : L2.Key} {v : V} (hv : Thg K H v) :
    G K H0 S B L U T b1 F1 b2 F2 (l1 ++ { r with kvs := putK r.kvs k v } :: l2) (m + 1) n (upd (upd H r.F (.dK (putK r.kvs k v))) r.D (.dK (putK r.kvs k v))) := by
  have rk := g.ok r (by simp)
  have nw := g.newR r (by simp)
  have kk : Kp [r.F, r.D] H (upd (upd H r.F (.dK (putK r.kvs k v))) r.D (.dK (putK r.kvs k v))) := (Kp.refl.upd_in (by simp)).upd_in (by simp)
  have lo : ∀ b ∈ [r.F, r.D], Loose H b := fun b q => by
    simp only [List.mem_cons, List.not_mem_nil, or_false] at q
    rcases q with rfl | rfl
    · exact .inr (.inr (.inl ⟨_, rk.hF⟩))
    · exact .inr (.inr (.inl ⟨_, rk.hD⟩))
  have ls : ∀ {b : Addr} {xs : List V}, H b = some (.lst xs) → b ∉ [r.F, r.D] := fun h q => by
    simp only [List.mem_cons, List.not_mem_nil, or_false] at q
    rcases q with e | e
    · exact lst_ne h rk.hF e.symm
    · exact lst_ne h rk.hD e.symm
  have nd := g.nd
  simp only [List.flatMap_append, List.flatMap_cons, List.append_assoc] at nd
  have n1 := List.nodup_append.mp nd
  have n2 := n1.2.1
  have n3 : ∀ q, q ∈ l2.flatMap (fun r => [r.F, r.D]) ++ [F1, F2] → q ∉ [r.F, r.D] := fun q hq h => by
    exact (List.nodup_append.mp n2).2.2 q h q hq rfl
  have n4 : ∀ q, q ∈ l1.flatMap (fun r => [r.F, r.D]) → q ∉ [r.F, r.D] := fun q hq h => n1.2.2 q hq q (List.mem_append_left _ h) rfl
  have old : ∀ r', r' ∈ l1 ∨ r' ∈ l2 → r'.F ∉ [r.F, r.D] ∧ r'.D ∉ [r.F, r.D] := fun r' h => by
    rcases h with h | h
    · exact ⟨n4 _ (List.mem_flatMap.mpr ⟨r', h, by simp⟩), n4 _ (List.mem_flatMap.mpr ⟨r', h, by simp⟩)⟩
    · exact ⟨n3 _ (List.mem_append_left _ (List.mem_flatMap.mpr ⟨r', h, by simp⟩)), n3 _ (List.mem_append_left _ (List.mem_flatMap.mpr ⟨r', h, by simp⟩))⟩
  have hx : r.x ≠ r.F ∧ r.x ≠ r.D := by
    constructor
    · intro e
      have := rk.hx
      rw [e, rk.hF] at this
      cases this
    · intro e
      have := rk.hx
      rw [e, rk.hD] at this
      cases this
  refine { kp := (g.kp.upd_new nw.1).upd_new nw.2, wel := ?_, hB := kk.at_ (ls g.hB) g.hB, hL := ?_, hU := ?_, hT := ?_, ok := ?_, k1 := g.k1.kp kk lo (n3 _ (by simp)), k2 := g.k2.kp kk lo (n3 _ (by simp)), nd := ?_, ne := g.ne, new := g.new, newR := ?_, len := ?_ }
  · obtain ⟨xs, hS⟩ := g.wel.lst
    exact g.wel.kp kk (ls hS)
  · have := kk.at_ (ls g.hL) g.hL
    simpa using this
  · have := kk.at_ (ls g.hU) g.hU
    simpa using this
  · have := kk.at_ (ls g.hT) g.hT
    simpa using this
  · intro r' hr
    have old' : r' ∈ l1 ∨ r' ∈ l2 → RowOk K (m + 1) (upd (upd H r.F (.dK (putK r.kvs k v))) r.D (.dK (putK r.kvs k v))) r' := fun h => by
      have z := (g.ok r' (by rcases h with h | h <;> simp [h])).kp kk lo (old r' h).1 (old r' h).2
      exact { z with le := Nat.le_succ_of_le z.le }
    simp only [List.mem_append, List.mem_cons] at hr
    rcases hr with h | rfl | h
    · exact old' (.inl h)
    · refine ⟨(upd_ne hx.2).trans ((upd_ne hx.1).trans rk.hx), (upd_ne rk.ne.symm).trans upd_same, upd_same, rk.ne, keys_put rk.nd, vals_put (fun kv q => (rk.th kv q).kp kk lo) (hv.kp kk lo), ?_⟩
      have := length_putK r.kvs k v
      have := rk.le
      show (putK r.kvs k v).length ≤ m + 1
      omega
    · exact old' (.inr h)
  · simp only [List.flatMap_append, List.flatMap_cons, List.append_assoc]
    exact nd
  · intro r' hr
    simp only [List.mem_append, List.mem_cons] at hr
    rcases hr with h | rfl | h
    · exact g.newR r' (by simp [h])
    · exact nw
    · exact g.newR r' (by simp [h])
  · have := g.len
    simp only [List.length_append, List.length_cons] at this ⊢
    exact this
theorem G.drawn (g : G K H0 S B L U T b1 F1 b2 F2 rows m n H) (sw : SW H S n' H') : G K H0 S B L U T b1 F1 b2 F2 rows m n' H' := g.kpS sw.1 sw.2
theorem split_at {α : Type} {xs : List α} {i : Int} (h0 : 0 ≤ i) (h1 : i < xs.length) : ∃ l1 x l2, xs = l1 ++ x :: l2 ∧ ∀ {β : Type} (f : α → β), atI (xs.map f) i = some (f x) := by
  have h : i.toNat < xs.length := by omega
  refine ⟨xs.take i.toNat, xs[i.toNat], xs.drop (i.toNat + 1), ?_, fun f => ?_⟩
  · rw [List.getElem_cons_drop, List.take_append_drop]
  · have e : (i.toNat : Int) = i := by omega
    have := atI_nat (xs := xs.map f) (j := i.toNat) (v := f xs[i.toNat]) (by rw [List.getElem?_map, List.getElem?_eq_getElem h]; rfl)
    rw [e] at this
    exact this
theorem bl3 (O : Own K C) (g : G K H0 S B L U T b1 F1 b2 F2 rows m n H) (hr : rows ≠ []) (hn : n ≤ 1000000) (hm : m ≤ 100) (sg : Sg a S B L U T σ) (q : ∀ rows' σ' H', rows' ≠ [] → G K H0 S B L U T b1 F1 b2 F2 rows' (m + 1) (n + 100) H' → Sg a S B L U T σ' → D.nx σ' H') : b_law_3 K C D σ H := by
  obtain ⟨u1, u3, u8, u9, u10, u11, u12, u13, u14, u15, u16, rfl⟩ := sg
  unfold b_law_3
  have hL := g.hL
  have sc := g.sw
  have rl := List.length_pos_iff.mpr hr
  have rl3 := g.len
  walk_at "go"
  rename_i H1 r1 sc1 k1 h0 h1
  rw [List.length_map] at h1
  obtain ⟨l1, r, l2, rfl, ea⟩ := split_at h0 h1
  clear hL
  have g1 := g.drawn sc1
  have rk := g1.ok r (by simp)
  refine ixL_go (SqL.of g1.hU) (ea _) ?_
  walk_at "go"
  show Kb.rListD K [.ref r.D] _ _
  refine listD_go rk.hD fun p np => ?_
  have le := rk.le
  walk_at "go"
  rename_i H2 z2 sc2 k2 hz p2 np2 p3 np3
  have sc3 := (sc2.new (o := .lst [.str z2]) np2).new (o := .lst (r.kvs.map (fun kv => kV kv.1) ++ [.str z2])) np3
  refine oneL_go (xs := r.kvs.map (fun kv => kV kv.1) ++ [.str z2]) sc3 (by omega) (SqL.of upd_same) (by simp) (by simp only [List.length_append, List.length_map, List.length_cons, List.length_nil]; omega) ((sc2.new (o := .lst [.str z2]) np2).2.ne np3) fun H3 y sc4 k4 hy => ?_
  obtain ⟨kk, rfl⟩ : ∃ kk, y = kV kk := by
    rcases List.mem_append.mp hy with h | h
    · obtain ⟨kv, _, rfl⟩ := List.mem_map.mp h
      exact ⟨_, rfl⟩
    · rw [List.mem_singleton.mp h]
      exact ⟨.inr z2, rfl⟩
  have g3 := g.drawn sc4
  have ne := g.ne
  simp only [List.nodup_cons, List.mem_cons, List.not_mem_nil, or_false, not_or] at ne
  walk_at "go"
  show sp_law_thing K [.ref S, .ref L] _ _ _
  unfold sp_law_thing
  refine ⟨S, L, _, _, rfl, g3.wel, by omega, SqL.of g3.hL, fun e => ne.1.2.1 e.symm, by simp, by rw [List.length_map]; omega, fun x hx => ?_, fun H4 v k5 w5 tv => ?_⟩
  · obtain ⟨r', hr', rfl⟩ := List.mem_map.mp hx
    exact Thg.ins (g3.ok r' hr').hx O.Node.eq O.Node.kb
  · have g4 := g3.kpS k5 w5
    have rk4 := g4.ok r (by simp)
    walk_at "go"
    refine ixL_go (SqL.of g4.hL) (ea _) ?_
    have hx4 := rk4.hx
    walk_at "go"
    refine ⟨r.x, r.dx, r.z, r.F, r.kvs, kk, v, rfl, rk4.hx, rk4.hF, by omega, ?_⟩
    walk_at "go"
    refine ixL_go (SqL.of ((upd_ne fun e => ?_).trans g4.hU)) (ea _) ?_
    · exact lst_ne g4.hU rk4.hF e.symm
    walk_at "go"
    refine ⟨r.D, _, rfl, DPut.k ((upd_ne rk4.ne).trans rk4.hD) (szlt_of (by omega)), ?_⟩
    exact q _ _ _ (by simp) ((g4.put tv).mono (by omega)) ⟨_, _, _, _, _, _, _, _, _, _, _, rfl⟩
theorem bl2 (O : Own K C) (g : G K H0 S B L U T b1 F1 b2 F2 rows 5 n H) (hr : rows ≠ []) (hn : n ≤ 10000) (sg : Sg a S B L U T σ) (q : ∀ σ' H', Kp [] H0 H' → Sg a S B L U T σ' → D.nx σ' H') : b_law_2 K C D σ H := by
  obtain ⟨u1, u3, u8, u9, u10, u11, u12, u13, u14, u15, u16, rfl⟩ := sg
  unfold b_law_2
  have sc := g.sw
  walk_at "go"
  rename_i H1 r1 sc1 k1 h0 h1
  have g1 := g.drawn sc1
  refine for_it walk_range (fun i σ H' => ∃ rows', rows' ≠ [] ∧ G K H0 S B L U T b1 F1 b2 F2 rows' (5 + i) (n + 1 + 100 * i) H' ∧ Sg a S B L U T σ) ⟨rows, hr, g1, _, _, _, _, _, _, _, _, _, _, _, rfl⟩ (fun _ _ _ _ _ => trivial) ?_ (fun σ H' h => ?_)
  · rintro i x σ Ha Hb hi ⟨rows', hr', g', sg⟩ ⟨rfl, rfl⟩
    obtain ⟨u1, u3, u8, u9, u10, u11, u12, u13, u14, u15, u16, rfl⟩ := sg
    walk_at "go"
    refine bl3 O g' hr' (by omega) (by omega) ⟨_, _, _, _, _, _, _, _, _, _, _, rfl⟩ fun rows2 σ2 H2 r2 g2 s2 => ?_
    exact ⟨rows2, r2, g2, s2⟩
  · obtain ⟨rows', hr', g', sg⟩ := h
    exact bl4 g' (by omega) (by omega) sg q
/-- a row more -/
theorem G.push {r : Row} (g : G K H0 S B L U T b1 F1 b2 F2 rows m n H) (hl : rows.length ≤ 2) (k : Kp [S, L, U, T] H H') (w : Wel H' S n') (hL : H' L = some (.lst (rows.map (fun r => .ref r.x) ++ [.ref r.x]))) (hU : H' U = some (.lst (rows.map (fun r => .ref r.D) ++ [.ref r.D]))) (hT : H' T = some (.lst (rows.map (fun r => .str r.z) ++ [.str r.z])))
    (rk : RowOk K m H' r) (nF : H r.F = none) (nD : H r.D = none) : G K H0 S B L U T b1 F1 b2 F2 (rows ++ [r]) m n' H' := by
  have ne := g.ne
  simp only [List.nodup_cons, List.mem_cons, List.not_mem_nil, or_false, not_or] at ne
  have lo : ∀ b ∈ [S, L, U, T], Loose H b := fun b q => by
    simp only [List.mem_cons, List.not_mem_nil, or_false] at q
    rcases q with rfl | rfl | rfl | rfl
    · exact .inr (.inl g.wel.lst)
    · exact .inr (.inl ⟨_, g.hL⟩)
    · exact .inr (.inl ⟨_, g.hU⟩)
    · exact .inr (.inl ⟨_, g.hT⟩)
  have hd : ∀ {b : Addr} {kvs : List (L2.Key × V)}, H b = some (.dK kvs) → b ∉ [S, L, U, T] := fun h q => by
    simp only [List.mem_cons, List.not_mem_nil, or_false] at q
    rcases q with rfl | rfl | rfl | rfl
    · obtain ⟨xs, hS⟩ := g.wel.lst
      rw [hS] at h
      cases h
    · rw [g.hL] at h
      cases h
    · rw [g.hU] at h
      cases h
    · rw [g.hT] at h
      cases h
  obtain ⟨d1, k11, k12⟩ := g.k1
  obtain ⟨d2, k21, k22⟩ := g.k2
  have isD : ∀ q, q ∈ (rows.flatMap fun r => [r.F, r.D]) ++ [F1, F2] → H q ≠ none := fun q hq e => by
    rcases List.mem_append.mp hq with hq | hq
    · obtain ⟨r', hr', hq⟩ := List.mem_flatMap.mp hq
      have rk' := g.ok r' hr'
      simp only [List.mem_cons, List.not_mem_nil, or_false] at hq
      rcases hq with rfl | rfl
      · rw [rk'.hF] at e
        cases e
      · rw [rk'.hD] at e
        cases e
    · simp only [List.mem_cons, List.not_mem_nil, or_false] at hq
      rcases hq with rfl | rfl
      · rw [k12] at e
        cases e
      · rw [k22] at e
        cases e
  refine { kp := g.kp.drop k fun a q => .inr (g.new a ?_), wel := w, hB := k.at_ ?_ g.hB, hL := by simpa using hL, hU := by simpa using hU, hT := by simpa using hT, ok := fun r' hr => ?_, k1 := g.k1.kp k lo (hd k12), k2 := g.k2.kp k lo (hd k22), nd := ?_, ne := g.ne, new := g.new, newR := fun r' hr => ?_, len := by rw [List.length_append, List.length_singleton]; omega }
  · simp only [List.mem_cons, List.not_mem_nil, or_false] at q ⊢
    rcases q with h | h | h | h <;> simp [h]
  · simp only [List.mem_cons, List.not_mem_nil, or_false, not_or]
    exact ⟨fun e => ne.1.1 e.symm, ne.2.1.1, ne.2.1.2.1, ne.2.1.2.2⟩
  · rcases List.mem_append.mp hr with hr | hr
    · exact (g.ok r' hr).kp k lo (hd (g.ok r' hr).hF) (hd (g.ok r' hr).hD)
    · rw [List.mem_singleton.mp hr]
      exact rk
  · have nd := g.nd
    rw [List.flatMap_append, List.append_assoc, List.nodup_append]
    have n1 := List.nodup_append.mp nd
    refine ⟨n1.1, ?_, fun x hx y hy e => ?_⟩
    · show ([r.F, r.D] ++ [F1, F2]).Nodup
      rw [List.nodup_append]
      refine ⟨by simp [rk.ne.symm], n1.2.1, fun x hx y hy e => ?_⟩
      subst e
      refine isD x (List.mem_append_right _ hy) ?_
      simp only [List.mem_cons, List.not_mem_nil, or_false] at hx
      rcases hx with rfl | rfl
      · exact nF
      · exact nD
    · subst e
      have hy' : x ∈ [r.F, r.D] ++ [F1, F2] := hy
      rcases List.mem_append.mp hy' with hy | hy
      · refine isD x (List.mem_append_left _ hx) ?_
        simp only [List.mem_cons, List.not_mem_nil, or_false] at hy
        rcases hy with rfl | rfl
        · exact nF
        · exact nD
      · exact n1.2.2 x hx x hy rfl
  · rcases List.mem_append.mp hr with hr | hr
    · exact g.newR r' hr
    · rw [List.mem_singleton.mp hr]
      exact ⟨g.kp.none_of List.not_mem_nil nF, g.kp.none_of List.not_mem_nil nD⟩
theorem paired_app {α β : Type} {R : α → β → Prop} : ∀ {xs xs' : List α} {ys ys' : List β}, Paired R xs ys → Paired R xs' ys' → Paired R (xs ++ xs') (ys ++ ys')
  | _, _, _, _, .nil, h => h
  | _, _, _, _, .cons a r, h => .cons a (paired_app r h)
theorem SW.trans' {Hc Ha : Hp} (x : SW H S n Hc) (y : SW Hc S n' Ha) : SW H S n' Ha := ⟨x.1.trans y.1, y.2⟩
theorem bl1 (O : Own K C) {w : Int} {u1 u3 u9 u10 u11 u12 u13 u14 u15 u16 : Option V} (g : G K H0 S B L U T b1 F1 b2 F2 rows 5 n H) (hl : rows.length ≤ 2) (hn : n ≤ 10000) (q : ∀ rows' σ' H', rows'.length = rows.length + 1 → Kp [S, L, U, T] H H' → G K H0 S B L U T b1 F1 b2 F2 rows' 5 (n + 1000) H' → Sg a S B L U T σ' → D.nx σ' H') :
    b_law_1 K C D [some (.ref a), u1, some (.ref S), u3, some (.ref B), some (.ref L), some (.ref U), some (.ref T), some (.int w), u9, u10, u11, u12, u13, u14, u15, u16] H := by
  unfold b_law_1
  have sc := g.sw
  walk_at "go"
  rename_i H1 r1 sc1 k1 h0 h1 DN nDN
  refine lc_acc walk_range (fun i acc H' => SW H S (n + 1 + 12 * i) H' ∧ ∃ ys : List Str, acc = ys.map V.str ∧ ys.length = i) ⟨sc1.new nDN, [], rfl, rfl⟩ (fun _ _ _ _ _ => trivial) (fun i x acc Hc Hb hi hl hD hP hY => ?_) (fun acc Hc hl hD hP => ?_)
  · obtain ⟨scb, ys, rfl, hy⟩ := hP
    obtain ⟨rfl, rfl⟩ := hY
    refine ⟨rfl, ?_⟩
    walk_at "go"
    rename_i H2 z2 sc2 k2 hz
    have hD2 := k2.at_ (nm_cons (sc1.2.ne nDN) List.not_mem_nil) hD
    refine acc_go hl (by omega) hD2 ⟨sc2.upd (sc1.was nDN) (nm_cons (sc1.2.ne nDN) List.not_mem_nil), ys ++ [z2], by simp, by simp [hy]⟩
  · obtain ⟨scb, ys, rfl, hy⟩ := hP
    have gc := g.drawn scb
    have hN := SqL.of (K := K) hD
    have ne := g.ne
    simp only [List.nodup_cons, List.mem_cons, List.not_mem_nil, or_false, not_or] at ne
    walk_at "go"
    refine ⟨⟨_, hN⟩, fun D2 nD2 => ?_⟩
    have D2S := scb.2.ne nD2
    have DNS : DN ≠ S := sc1.2.ne nDN
    have D2N : DN ≠ D2 := ne_of_none hD nD2
    refine lc_acc (walk_list (xs := ys.map V.str)) (fun i acc H' => SW Hc S (n + 1 + 12 * r1.toNat + 20 * i) H' ∧ ∃ (ps : List Addr) (kvs : List (L2.Key × V)), acc = ps.map V.ref ∧ Paired (fun p kv => H' p = some (.tup [kV kv.1, kv.2])) ps kvs ∧ (∀ kv ∈ kvs, Thg K H' kv.2) ∧ kvs.length = i) ⟨⟨Kp.refl.upd_new' nD2, scb.2.new nD2⟩, [], [], rfl, .nil, (fun kv m => nomatch m), rfl⟩ (fun i acc H' _ h => h.1.1.sqL (nm_cons DNS List.not_mem_nil) hN) (fun i x acc Ha Hb hi hl hD hP hY => ?_) (fun acc Ha hl hD hP => ?_)
    · obtain ⟨sca, ps, kvs, rfl, hp, ht, hk⟩ := hP
      obtain ⟨rfl, e⟩ := hY
      rw [List.getElem?_map] at e
      obtain ⟨y, _, rfl⟩ := Option.map_eq_some_iff.mp e
      refine ⟨rfl, ?_⟩
      rw [List.length_map] at hi
      have ga := gc.drawn sca
      have hB := ga.hB
      have hL := ga.hL
      have gl := ga.len
      walk_at "go"
      rename_i pA npA
      show sp_law_thing K [.ref S, .ref pA] _ _ _
      unfold sp_law_thing
      have scA := sca.new (o := .lst ([.ref b1, .ref b2] ++ rows.map fun r => .ref r.x)) npA
      have gA := ga.kp0 (Kp.refl.upd_new' (o := .lst ([.ref b1, .ref b2] ++ rows.map fun r => .ref r.x)) npA)
      have hDA := (upd_ne (o := .lst ([.ref b1, .ref b2] ++ rows.map fun r => .ref r.x)) (ne_of_none hD npA)).trans hD
      refine ⟨S, pA, _, [.ref b1, .ref b2] ++ rows.map (fun r => .ref r.x), rfl, scA.2, by omega, SqL.of upd_same, sca.2.ne npA, by simp, by simp only [List.length_append, List.length_map, List.length_cons, List.length_nil]; omega, fun x hx => ?_, fun H5 v k5 w5 tv => ?_⟩
      · obtain ⟨d1, b11, _⟩ := gA.k1
        obtain ⟨d2, b21, _⟩ := gA.k2
        rcases List.mem_append.mp hx with h | h
        · simp only [List.mem_cons, List.not_mem_nil, or_false] at h
          rcases h with rfl | rfl
          · exact Thg.ins b11 O.Node.eq O.Node.kb
          · exact Thg.ins b21 O.Node.eq O.Node.kb
        · obtain ⟨r', hr', rfl⟩ := List.mem_map.mp h
          exact Thg.ins (gA.ok r' hr').hx O.Node.eq O.Node.kb
      · have sc5 : SW Hc S _ H5 := ⟨scA.1.trans k5, w5⟩
        have hD5 := k5.at_ (nm_cons D2S List.not_mem_nil) hDA
        walk_at "go"
        rename_i pT npT
        have hD6 := (upd_ne (o := .tup [.str y, v]) (ne_of_none hD5 npT)).trans hD5
        have KK : Kp [S, D2] Hb (upd (upd H5 pT (.tup [.str y, v])) D2 (.lst (ps.map V.ref ++ [.ref pT]))) :=
          (((Kp.refl.upd_new' (o := .lst ([.ref b1, .ref b2] ++ rows.map fun r => .ref r.x)) npA).trans (k5.mono fun a z => by simp [List.mem_singleton.mp z])).upd_new' npT).upd_in (by simp)
        have lo : ∀ b ∈ [S, D2], Loose Hb b := fun b q => by
          simp only [List.mem_cons, List.not_mem_nil, or_false] at q
          rcases q with rfl | rfl
          · exact .inr (.inl sca.2.lst)
          · exact .inr (.inl ⟨_, hD⟩)
        have nmT : pT ∉ [S, D2] := fun q => by
          simp only [List.mem_cons, List.not_mem_nil, or_false] at q
          rcases q with rfl | rfl
          · exact sc5.2.ne npT rfl
          · rw [hD5] at npT
            cases npT
        refine acc_go hl (by omega) hD6 ⟨((sc5.new npT).upd nD2 (nm_cons D2S List.not_mem_nil)).mono (by omega), ps ++ [pT], kvs ++ [(.inr y, v)], by simp, ?_, ?_, by simp [hk]⟩
        · refine paired_app (paired_imp (fun p kv h => KK p _ (fun q => ?_) h) hp) (.cons ((upd_ne fun e => nmT (by simp [e])).trans upd_same) .nil)
          exact (lo _ q).not h (fun _ e => by cases e) (fun _ e => by cases e) fun _ _ e => by cases e
        · intro kv m
          rcases List.mem_append.mp m with m | m
          · exact (ht kv m).kp KK lo
          · rw [List.mem_singleton.mp m]
            refine Thg.kp (M := [D2]) tv ((Kp.refl.upd_new' npT).upd_in (by simp)) fun b q => ?_
            rw [List.mem_singleton.mp q]
            exact .inr (.inl ⟨_, hD5⟩)
    · obtain ⟨sca, ps, kvs, rfl, hp, ht, hk⟩ := hP
      obtain ⟨m1, m2, m3⟩ := merge_all (P := Thg K Ha) kvs [] (by simp) (fun kv m => nomatch m) ht
      rw [List.length_map] at hk
      simp only [List.length_nil, Nat.zero_add] at m3
      walk_at "go"
      show rDictU K [.ref D2] Ha _
      refine dict_go (kvs := mergeK [] kvs) ⟨D2, rfl, .inr (.inl ⟨ps, kvs, SqL.of hD, paired_imp (fun _ _ h => SqT.of h) hp, rfl⟩)⟩ fun Dd nDd => ?_
      generalize mergeK [] kvs = mk at m1 m2 m3 ⊢
      have scd := (scb.trans' sca).new (o := .dK mk) nDd
      have hDd : (upd Ha Dd (.dK mk)) Dd = some (.dK mk) := upd_same
      have thd : ∀ kv ∈ mk, Thg K (upd Ha Dd (.dK mk)) kv.2 := fun kv m => (m2 kv m).kp0 (Kp.refl.upd_new' nDd)
      have nDH : H Dd = none := (scb.trans' sca).was nDd
      generalize upd Ha Dd (.dK mk) = H3 at scd hDd thd ⊢
      rw [List.length_map] at scd
      have g3 := g.drawn scd
      have hT3 := g3.hT
      have gl3 := g.len
      walk_at "go"
      rename_i H4 z4 sc4 k4 hz4
      have g4 := g.drawn sc4
      have hT4 := g4.hT
      walk_at "go"
      have hDd4 := k4.at_ (fun q => lst_ne scd.2.lst.choose_spec hDd (List.mem_singleton.mp q)) hDd
      have thd4 : ∀ kv ∈ mk, Thg K H4 kv.2 := fun kv m => (thd kv m).kp k4 scd.2.loose
      have DdT : Dd ≠ T := lst_ne hT4 hDd4
      have hT5 : (upd H4 T (.lst (rows.map (fun r => V.str r.z) ++ [.str z4]))) T = some (.lst (rows.map (fun r => V.str r.z) ++ [.str z4])) := upd_same
      have hL5 := (upd_ne (o := .lst (rows.map (fun r => V.str r.z) ++ [.str z4])) ne.2.2.1.2).trans g4.hL
      have hU5 := (upd_ne (o := .lst (rows.map (fun r => V.str r.z) ++ [.str z4])) ne.2.2.2.1).trans g4.hU
      have hDd5 := (upd_ne (o := .lst (rows.map (fun r => V.str r.z) ++ [.str z4])) DdT).trans hDd4
      have w5 : Wel (upd H4 T (.lst (rows.map (fun r => V.str r.z) ++ [.str z4]))) S _ := sc4.2.off fun e => ne.1.2.2.2 e.symm
      have kT : Kp [T] H4 (upd H4 T (.lst (rows.map (fun r => V.str r.z) ++ [.str z4]))) := Kp.refl.upd_in List.mem_cons_self
      have K5 : Kp [S, L, U, T] H (upd H4 T (.lst (rows.map (fun r => V.str r.z) ++ [.str z4]))) := (sc4.1.mono fun a q => by simp [List.mem_singleton.mp q]).upd_in (by simp)
      have thd5 : ∀ kv ∈ mk, Thg K (upd H4 T (.lst (rows.map (fun r => V.str r.z) ++ [.str z4]))) kv.2 := fun kv m => (thd4 kv m).kp kT fun b q => by
        rw [List.mem_singleton.mp q]
        exact .inr (.inl ⟨_, hT4⟩)
      generalize upd H4 T (.lst (rows.map (fun r => V.str r.z) ++ [.str z4])) = H5 at hT5 hL5 hU5 hDd5 w5 K5 thd5 ⊢
      walk_at "go"
      refine ixL_go (SqL.of hT5) (atI_last _ _) ?_
      walk_at "go"
      show sp_law_made K [.int w, .str z4, .ref Dd] _ _ _
      unfold sp_law_made
      refine ⟨w, z4, Dd, mk, rfl, hDd5, m1, by omega, fun H6 x F k6 nx nF nd6 => ?_⟩
      have K6 : Kp [S, L, U, T] H H6 := K5.trans (k6.mono fun a z => nomatch z)
      obtain ⟨x', dx, ex, hx6, hF6⟩ := nd6
      cases ex
      have hL6 := k6.at_ List.not_mem_nil hL5
      have hU6 := k6.at_ List.not_mem_nil hU5
      have hT6 := k6.at_ List.not_mem_nil hT5
      have hDd6 := k6.at_ List.not_mem_nil hDd5
      have w6 := w5.kp k6 List.not_mem_nil
      have nF0 : H F = none := (by
        cases e : H F with
        | none => rfl
        | some o =>
          by_cases q : F ∈ [S, L, U, T]
          · simp only [List.mem_cons, List.not_mem_nil, or_false] at q
            exfalso
            rcases q with rfl | rfl | rfl | rfl
            · obtain ⟨xs, hS⟩ := w5.lst
              rw [hS] at nF
              cases nF
            · rw [hL5] at nF
              cases nF
            · rw [hU5] at nF
              cases nF
            · rw [hT5] at nF
              cases nF
          · rw [K5 _ _ q e] at nF
            cases nF)
      have DdF : Dd ≠ F := ne_of_none hDd5 nF
      have xL : x ≠ L := fun e => by rw [e, hL6] at hx6; cases hx6
      have xU : x ≠ U := fun e => by rw [e, hU6] at hx6; cases hx6
      have FL : F ≠ L := lst_ne hL6 hF6
      have FU : F ≠ U := lst_ne hU6 hF6
      have DL : Dd ≠ L := lst_ne hL6 hDd6
      have DU : Dd ≠ U := lst_ne hU6 hDd6
      have SL : S ≠ L := ne.1.2.1
      have SU : S ≠ U := ne.1.2.2.1
      have TL : T ≠ L := fun e => ne.2.2.1.2 e.symm
      have TU : T ≠ U := fun e => ne.2.2.2.1 e.symm
      have LU : L ≠ U := ne.2.2.1.1
      walk_at "go"
      have lo6 : ∀ b ∈ [L, U], Loose H6 b := fun b q => by
        simp only [List.mem_cons, List.not_mem_nil, or_false] at q
        rcases q with rfl | rfl
        · exact .inr (.inl ⟨_, hL6⟩)
        · exact .inr (.inl ⟨_, hU6⟩)
      refine q (rows ++ [⟨x, dx, z4, F, Dd, mk⟩]) _ _ (by simp) ((K6.upd_in (by simp)).upd_in (by simp)) (g.push (r := ⟨x, dx, z4, F, Dd, mk⟩) (by assumption) ((K6.upd_in (by simp)).upd_in (by simp)) (((w6.off SL.symm).off SU.symm).mono (by omega)) ((upd_ne LU).trans upd_same) upd_same ((upd_ne TU).trans ((upd_ne TL).trans hT6))
        ⟨(upd_ne xU).trans ((upd_ne xL).trans hx6), (upd_ne FU).trans ((upd_ne FL).trans hF6), (upd_ne DU).trans ((upd_ne DL).trans hDd6), DdF, m1, fun kv m => ((thd5 kv m).kp0 k6).kp (M := [L, U]) ((Kp.refl.upd_in (by simp)).upd_in (by simp)) lo6, by show mk.length ≤ 5; omega⟩ nF0 nDH) ⟨_, _, _, _, _, _, _, _, _, _, _, rfl⟩
def Sh17 (a : Addr) (σ : L2.St) : Prop := ∃ u1 u2 u3 u4 u5 u6 u7 u8 u9 u10 u11 u12 u13 u14 u15 u16, σ = [some (.ref a), u1, u2, u3, u4, u5, u6, u7, u8, u9, u10, u11, u12, u13, u14, u15, u16]
theorem well_go {i : Int} {Q : VK} {E : XK} (q : ∀ p o, H p = none → Wel (upd H p o) p 0 → Q (.ref p) (upd H p o)) : sp_law_well K [.int i] H Q E := by
  unfold sp_law_well
  exact ⟨i, rfl, q⟩
theorem bl0 (O : Own K C) {c : Int} {u2 u3 u4 u5 u6 u7 u8 u9 u10 u11 u12 u13 u14 u15 u16 : Option V} (q : ∀ σ' H', Kp [] H H' → Sh17 a σ' → D.nx σ' H') :
    b_law_0 K C D [some (.ref a), some (.int c), u2, u3, u4, u5, u6, u7, u8, u9, u10, u11, u12, u13, u14, u15, u16] H := by
  unfold b_law_0
  obtain ⟨n0, s0, hC⟩ := O.nil
  walk_at "go"
  show sp_law_well K [.int c] _ _ _
  refine well_go fun S o nS w0 => ?_
  have scS : SW H S 0 (upd H S o) := ⟨Kp.refl.upd_new' nS, w0⟩
  walk_at "go"
  rename_i H1 r1 sc1 k1 h0 h1 DW nDW
  have DWS : DW ≠ S := sc1.2.ne nDW
  refine lc_acc walk_range (fun i acc H' => SW H S (1 + i) H' ∧ ∃ ks : List Int, acc = ks.map V.int ∧ ks.length = i) ⟨sc1.new nDW, [], rfl, rfl⟩ (fun _ _ _ _ _ => trivial) (fun i x acc Hc Hb hi hl hD hP hY => ?_) (fun acc Hc hl hD hP => ?_)
  · obtain ⟨scb, ks, rfl, hk⟩ := hP
    obtain ⟨rfl, rfl⟩ := hY
    refine ⟨rfl, ?_⟩
    walk_at "go"
    rename_i H2 r2 sc2 k2 _ _
    have hD2 := k2.at_ (nm_cons DWS List.not_mem_nil) hD
    exact acc_go hl (by omega) hD2 ⟨sc2.upd (sc1.was nDW) (nm_cons DWS List.not_mem_nil), ks ++ [r2], by simp, by simp [hk]⟩
  · obtain ⟨scb, ks, rfl, hk⟩ := hP
    have hk1 : 1 ≤ ks.length := by omega
    have hk3 : ks.length ≤ 3 := by omega
    walk_at "go"
    rename_i x1 d1 nx1 nd1 ne1
    show sp_Node___init__ K [.ref x1, .str (PySem.Str.ofString "z"), .ref C] _ _ _
    refine node_go nx1 nd1 ne1 (kvs := []) ⟨C, rfl, .inr (.inr ⟨[], [], .inr ⟨[], n0, s0, hC, Nat.zero_le _, .nil⟩, .nil, rfl⟩)⟩ fun H2 F1 k2 nF1 Fx1 hx1 hF1 => ⟨rfl, ?_⟩
    have sc2 := scb.kp k2
    have hD2 := k2.at_ List.not_mem_nil hD
    walk_at "go"
    rename_i x2 d2 nx2 nd2 ne2
    show sp_Node___init__ K [.ref x2, .str (PySem.Str.ofString "y"), .ref C] _ _ _
    refine node_go nx2 nd2 ne2 (kvs := []) ⟨C, rfl, .inr (.inr ⟨[], [], .inr ⟨[], n0, s0, hC, Nat.zero_le _, .nil⟩, .nil, rfl⟩)⟩ fun H3 F2 k3 nF2 Fx2 hx2 hF2 => ⟨rfl, ?_⟩
    have sc3 := sc2.kp k3
    have hD3 := k3.at_ List.not_mem_nil hD2
    have hx13 := k3.at_ List.not_mem_nil hx1
    have hF13 := k3.at_ List.not_mem_nil hF1
    have F12 : F1 ≠ F2 := ne_of_none hF1 nF2
    walk_at "go"
    rename_i B nB L nL U nU T nT
    have z0 := Kp.refl (H := H3) (M := [])
    have zB := z0.upd_new' (o := .lst [.ref x1, .ref x2]) nB
    have zL := zB.upd_new' (o := .lst []) nL
    have zU := zL.upd_new' (o := .lst []) nU
    have zT := zU.upd_new' (o := .lst []) nT
    have LB : L ≠ B := fun e => by rw [e, upd_same] at nL; cases nL
    have UB : U ≠ B := fun e => by rw [e, upd_ne LB.symm, upd_same] at nU; cases nU
    have UL : U ≠ L := fun e => by rw [e, upd_same] at nU; cases nU
    have TB : T ≠ B := fun e => by rw [e, upd_ne UB.symm, upd_ne LB.symm, upd_same] at nT; cases nT
    have TL : T ≠ L := fun e => by rw [e, upd_ne UL.symm, upd_same] at nT; cases nT
    have TU : T ≠ U := fun e => by rw [e, upd_same] at nT; cases nT
    have sc7 := ((((sc3.new (o := .lst [.ref x1, .ref x2]) nB).new (o := .lst []) nL).new (o := .lst []) nU).new (o := .lst []) nT)
    have hB := (upd_ne (o := .lst []) TB.symm).trans ((upd_ne (o := .lst []) UB.symm).trans ((upd_ne (o := .lst []) LB.symm).trans (upd_same (H := H3) (a := B) (o := .lst [.ref x1, .ref x2]))))
    have hL := (upd_ne (o := .lst []) TL.symm).trans ((upd_ne (o := .lst []) UL.symm).trans (upd_same (H := upd H3 B (.lst [.ref x1, .ref x2])) (a := L) (o := .lst [])))
    have hU := (upd_ne (o := .lst []) TU.symm).trans (upd_same (H := upd (upd H3 B (.lst [.ref x1, .ref x2])) L (.lst [])) (a := U) (o := .lst []))
    have hT := (upd_same (H := upd (upd (upd H3 B (.lst [.ref x1, .ref x2])) L (.lst [])) U (.lst [])) (a := T) (o := .lst []))
    have SB := (sc3.2.ne nB).symm
    have SL := ((sc3.new nB).2.ne nL).symm
    have SU := (((sc3.new nB).new nL).2.ne nU).symm
    have ST := ((((sc3.new nB).new nL).new nU).2.ne nT).symm
    have hD7 := zT.at_ List.not_mem_nil hD3
    have y1 := zT.at_ List.not_mem_nil hx13
    have y2 := zT.at_ List.not_mem_nil hF13
    have y3 := zT.at_ List.not_mem_nil hx2
    have y4 := zT.at_ List.not_mem_nil hF2
    have DL : DW ≠ L := ne_of_none (zB.at_ List.not_mem_nil hD3) nL
    have DU : DW ≠ U := ne_of_none (zL.at_ List.not_mem_nil hD3) nU
    have DT : DW ≠ T := ne_of_none (zU.at_ List.not_mem_nil hD3) nT
    have K0 : Kp [] H H3 := Kp.refl.drop sc3.1 fun a z => .inr (by rw [List.mem_singleton.mp z]; exact nS)
    have nB0 := K0.none_of List.not_mem_nil nB
    have nL0 := (K0.trans zB).none_of List.not_mem_nil nL
    have nU0 := (K0.trans zL).none_of List.not_mem_nil nU
    have nT0 := (K0.trans zU).none_of List.not_mem_nil nT
    have K7 := K0.trans zT
    generalize upd (upd (upd (upd H3 B (.lst [.ref x1, .ref x2])) L (.lst [])) U (.lst [])) T (.lst []) = H7 at sc7 hB hL hU hT hD7 y1 y2 y3 y4 K7 ⊢
    have g7 : G K H S B L U T x1 F1 x2 F2 [] 5 (1 + (1 + r1).toNat) H7 := {
      kp := K7, wel := sc7.2, hB := hB, hL := hL, hU := hU, hT := hT, ok := (fun r m => nomatch m), k1 := ⟨_, y1, y2⟩, k2 := ⟨_, y3, y4⟩, nd := by simp [F12]
      ne := by simp [SB, SL, SU, ST, LB.symm, UB.symm, TB.symm, UL.symm, TL.symm, TU.symm]
      new := fun p m => by
        simp only [List.mem_cons, List.not_mem_nil, or_false] at m
        rcases m with rfl | rfl | rfl | rfl | rfl <;> assumption
      newR := (fun r m => nomatch m), len := by simp }
    refine ⟨⟨_, SqL.of hD7⟩, ?_⟩
    refine for_it (walk_list (xs := ks.map V.int)) (fun i σ H' => Kp [S, L, U, T] H7 H' ∧ ∃ rows, rows.length = i ∧ G K H S B L U T x1 F1 x2 F2 rows 5 (1 + (1 + r1).toNat + 1000 * i) H' ∧ Sg a S B L U T σ) ⟨Kp.refl, [], rfl, g7, _, _, _, _, _, _, _, _, _, _, _, rfl⟩
      (fun i σ H' _ h => h.1.sqL (by simp only [List.mem_cons, List.not_mem_nil, or_false, not_or]; exact ⟨DWS, DL, DU, DT⟩) (SqL.of hD7)) ?_ (fun σ H' h => ?_)
    · rintro i x σ Ha Hb hi ⟨ka, rows, hr, g, sg⟩ ⟨rfl, e⟩
      rw [List.length_map] at hi
      rw [List.getElem?_map] at e
      obtain ⟨w, _, rfl⟩ := Option.map_eq_some_iff.mp e
      obtain ⟨v1, v3, v8, v9, v10, v11, v12, v13, v14, v15, v16, rfl⟩ := sg
      walk_at "go"
      refine bl1 O g (by omega) (by omega) fun rows' σ' H' hl' k' g' sg' => ?_
      exact ⟨ka.trans k', rows', by omega, g'.mono (by omega), sg'⟩
    · obtain ⟨ka, rows, hr, g, sg⟩ := h
      rw [List.length_map] at hr
      refine bl2 O g (fun e => ?_) (by rw [List.length_map]; omega) sg fun σ' H' k' sg' => q _ _ k' ?_
      · rw [e] at hr
        simp only [List.length_nil] at hr
        omega
      · obtain ⟨v1, v3, v8, v9, v10, v11, v12, v13, v14, v15, v16, rfl⟩ := sg'
        exact ⟨_, _, _, _, _, _, _, _, _, _, _, _, _, _, _, _, rfl⟩
end
theorem len_law (K : PySem.W.Frag) : ∀ vs H Q E, sp_law K vs H Q E → vs.length = ["_law_script"].length := by
  rintro _ _ _ _ ⟨_, _, rfl, _⟩; rfl
theorem p_law (K : PySem.W.Frag) (C : Addr) (O : Own K C) (vs : List V) (H : Hp) (Q : VK) (E : XK) (h : sp_law K vs H Q E) : t_law K C { nx := fun _ H' => Q .non H', rt := Q } (start ["_law_script", "_law_cell", "_law_well_here", "_law_ways", "_law_blanks", "_law_nodes", "_law_dues", "_law_sorts", "_law_way", "_law_names", "_law_due", "_law_k", "_law_at", "_law_called", "_law_what", "_law_node", "_law_sort"] vs) H := by
  obtain ⟨a, ns, rfl, hS, hl, q⟩ := h
  walk_at "go"
  rename_i p1 n1 p2 n2
  have cl := cutV_length (ns.map V.int) none (some 6)
  rw [List.length_map] at cl
  refine addL_go ((upd_ne (ne_of_none upd_same n2)).trans upd_same) upd_same (by simp only [List.length_cons, List.length_nil]; omega) fun p3 n3 => ?_
  refine ⟨p3, rfl, ⟨_, SqL.of upd_same⟩, ?_⟩
  have h3 : (upd (upd (upd H p1 (HO.lst (cutV (ns.map V.int) none (some 6)))) p2 (HO.lst [V.int 0])) p3 (HO.lst (cutV (ns.map V.int) none (some 6) ++ [V.int 0]))) p3 = some (.lst ((cutI ns none (some 6) ++ [0]).map V.int)) := by
    rw [upd_same, List.map_append, ← cutV_map]
    rfl
  generalize (upd (upd (upd H p1 (HO.lst (cutV (ns.map V.int) none (some 6)))) p2 (HO.lst [V.int 0])) p3 (HO.lst (cutV (ns.map V.int) none (some 6) ++ [V.int 0]))) = H3 at h3 ⊢
  refine for_it (walk_list (xs := (cutI ns none (some 6) ++ [0]).map V.int)) (fun i σ H' => Kp [] H3 H' ∧ Sh17 a σ) ⟨Kp.refl, _, _, _, _, _, _, _, _, _, _, _, _, _, _, _, _, rfl⟩ (fun i σ H' _ h => SqL.of (h.1.at_ List.not_mem_nil h3)) ?_ (fun σ H' h => ?_)
  · rintro i x σ Ha Hb hi ⟨ka, sg⟩ ⟨rfl, e⟩
    rw [List.getElem?_map] at e
    obtain ⟨c, _, rfl⟩ := Option.map_eq_some_iff.mp e
    obtain ⟨v1, v2, v3, v4, v5, v6, v7, v8, v9, v10, v11, v12, v13, v14, v15, v16, rfl⟩ := sg
    walk_at "go"
    exact bl0 O fun σ' H' k' sg' => ⟨ka.trans k', sg'⟩
  · walk_at "go"
    exact q _
theorem law_end (K : PySem.W.Frag) (H : Hp) (a : Addr) (ns : List Int) (hl : ns.length ≤ 63) (hb : ∀ z ∈ ns, Builtin.Int.intBits z ≤ 1048576) (hS : SqL K H a (ns.map V.int)) : sp_law K [.ref a] H (fun v _ => v = .bl true) E0 :=
  ⟨a, ns, rfl, hS, hl, fun _ => rfl⟩
end K11

namespace K11
open PySem PySem.Spec PyProof.Rows L2 Kb
def topS (i : Nat) : Stmt := PySem.Challenge.pw_thingwires_k11_nodes_and_cases.main.body.getD i (.Pass ⟨0, 0, 0, 0⟩)
abbrev s_Node___init__ : Stmt := inClass (topS 1) 0
abbrev s_Node_put : Stmt := inClass (topS 1) 1
abbrev s_Case___init__ : Stmt := inClass (topS 2) 0
abbrev s_law_well : Stmt := topS 4
abbrev s_law_draw : Stmt := topS 5
abbrev s_law_one : Stmt := topS 6
abbrev s_law_text : Stmt := topS 7
abbrev s_law_thing : Stmt := topS 8
abbrev s_law_alike : Stmt := topS 9
abbrev s_law_right : Stmt := topS 10
abbrev s_law_made : Stmt := topS 11
abbrev s_law_cases_right : Stmt := topS 12
abbrev s_law : Stmt := topS 13
structure Txt (K : PySem.W.Frag) (mg : Str → Option Value) (C : Addr) : Prop where
  m_bool : mg "bool" = none
  m_dict : mg "dict" = none
  m_enumerate : mg "enumerate" = none
  m_int : mg "int" = none
  m_isinstance : mg "isinstance" = none
  m_len : mg "len" = none
  m_list : mg "list" = none
  m_range : mg "range" = none
  m_tuple : mg "tuple" = none
  m_zip : mg "zip" = none
  own : Own K C
  g_Node : mg "Node" = some (.ref (cAt K "Node"))
  mk_Node : PySem.W.makesIn K (cAt K "Node") = true
  kc_Node : PySem.W.keepIn K (.ref (cAt K "Node")) = true
  g_Case : mg "Case" = some (.ref (cAt K "Case"))
  mk_Case : PySem.W.makesIn K (cAt K "Case") = true
  kc_Case : PySem.W.keepIn K (.ref (cAt K "Case")) = true
  d_Node___init__ : DefD K (cAt K "Node") s_Node___init__ "Node.__init__" [.ref C]
  d_Node_put : DefM K (cAt K "Node") s_Node_put "put" "Node.put"
  d_Case___init__ : DefD K (cAt K "Case") s_Case___init__ "Case.__init__" [.non]
  d_law_well : Def K mg s_law_well "_law_well"
  d_law_draw : Def K mg s_law_draw "_law_draw"
  d_law_one : Def K mg s_law_one "_law_one"
  d_law_text : Def K mg s_law_text "_law_text"
  d_law_thing : Def K mg s_law_thing "_law_thing"
  d_law_alike : Def K mg s_law_alike "_law_alike"
  d_law_right : Def K mg s_law_right "_law_right"
  d_law_made : Def K mg s_law_made "_law_made"
  d_law_cases_right : Def K mg s_law_cases_right "_law_cases_right"
  d_law : Def K mg s_law "law"
theorem sc_Node___init__ : FnScope ["self", "kind", "fields"] ["self", "kind", "fields"] (defScope s_Node___init__) := ⟨rfl, rfl, rfl, by decide +kernel, rfl, by decide +kernel, by decide +kernel⟩
theorem ok_Node___init__ {P : Program} {w : World} {K : PySem.W.Frag} {mg : Str → Option Value} {base : Heap} {C : Addr} (T : Txt K mg C) : CalD P w K mg base CX0 1 (cAt K "Node") s_Node___init__ "Node.__init__" [.ref C] ["self", "kind", "fields"] (sp_Node___init__ K) := by
  refine CalD.of T.d_Node___init__ sc_Node___init__ (len_Node___init__ K) fun f cdv A outer s H vs Q E hr h => ⟨t_Node___init__ K C, ?_, p_Node___init__ K C T.own vs H Q E h⟩
  exact (pss_cons (ps_fldU (pv 0) (pv 1) rfl)
 (pss_one (ps_fldU (pv 0) (pe_callTy (u_dict rfl) (by rfl) T.m_dict (by decide +kernel) (pa_cons (pv 2) pa_nil)) rfl)))

theorem sc_Node_put : FnScope ["self", "name", "thing"] ["self", "name", "thing"] (defScope s_Node_put) := ⟨rfl, rfl, rfl, by decide +kernel, rfl, by decide +kernel, by decide +kernel⟩
theorem ok_Node_put {P : Program} {w : World} {K : PySem.W.Frag} {mg : Str → Option Value} {base : Heap} {C : Addr} (T : Txt K mg C) : CalF P w K mg base CX0 1 (cAt K "Node") s_Node_put "put" "Node.put" ["self", "name", "thing"] (sp_Node_put K) := by
  refine CalF.of T.d_Node_put sc_Node_put (len_Node_put K) fun f cdv A outer s H vs Q E hr h => ⟨t_Node_put K C, ?_, p_Node_put K C T.own vs H Q E h⟩
  exact (pss_one (ps_dput (hu_of hr) (pe_fldU (pv 0) (by rfl)) (pv 1) (pv 2) rfl))

theorem sc_Case___init__ : FnScope ["self", "word", "content"] ["self", "word", "content"] (defScope s_Case___init__) := ⟨rfl, rfl, rfl, by decide +kernel, rfl, by decide +kernel, by decide +kernel⟩
theorem ok_Case___init__ {P : Program} {w : World} {K : PySem.W.Frag} {mg : Str → Option Value} {base : Heap} {C : Addr} (T : Txt K mg C) : CalD P w K mg base CX0 1 (cAt K "Case") s_Case___init__ "Case.__init__" [.non] ["self", "word", "content"] (sp_Case___init__ K) := by
  refine CalD.of T.d_Case___init__ sc_Case___init__ (len_Case___init__ K) fun f cdv A outer s H vs Q E hr h => ⟨t_Case___init__ K C, ?_, p_Case___init__ K C T.own vs H Q E h⟩
  exact (pss_cons (ps_fldU (pv 0) (pv 1) rfl)
 (pss_one (ps_fldU (pv 0) (pv 2) rfl)))

theorem sc_law_well : FnScope ["_law_cell"] ["_law_cell"] (defScope s_law_well) := ⟨rfl, rfl, rfl, by decide +kernel, rfl, by decide +kernel, by decide +kernel⟩
theorem ok_law_well {P : Program} {w : World} {K : PySem.W.Frag} {mg : Str → Option Value} {base : Heap} {C : Addr} (T : Txt K mg C) : Cal P w K mg base CX0 1 "_law_well" ["_law_cell"] (sp_law_well K) := by
  refine Cal.of (st := s_law_well) T.d_law_well sc_law_well (fun _ _ _ _ _ _ us hl => match us, hl with | [_], _ => rfl) (len_law_well K) fun f cdv A outer s H vs Q E hr h => ⟨t_law_well K, ?_, p_law_well K vs H Q E h⟩
  exact (pss_one (ps_ret (pe_lst (pa_cons (pe_op u_mul (pv 0) (pe_callTy u_int (by rfl) T.m_int (by decide +kernel) (pa_cons (pe_cmpR u_ge (pv 0) (pe_op u_pow pe_int pe_int) (nomark _)) pa_nil))) (pa_cons (pe_op u_mod (pv 0) pe_int) (pa_cons pe_int pa_nil))))))

theorem sc_law_draw : FnScope ["_law_well_here", "_law_many", "_law_digit", "_law_prime", "_law_number"] ["_law_well_here", "_law_many"] (defScope s_law_draw) := ⟨rfl, rfl, rfl, by decide +kernel, rfl, by decide +kernel, by decide +kernel⟩
theorem ok_law_draw {P : Program} {w : World} {K : PySem.W.Frag} {mg : Str → Option Value} {base : Heap} {C : Addr} (T : Txt K mg C) : Cal P w K mg base CX0 1 "_law_draw" ["_law_well_here", "_law_many"] (sp_law_draw K) := by
  refine Cal.of (st := s_law_draw) T.d_law_draw sc_law_draw (fun _ _ _ _ _ _ us hl => match us, hl with | [_, _], _ => rfl) (len_law_draw K) fun f cdv A outer s H vs Q E hr h => ⟨t_law_draw K, ?_, p_law_draw K vs H Q E h⟩
  exact (pss_cons (ps_if (pt_cmpR u_gt (pe_ix u_ix (pv 0) pe_int (fun _ _ => rfl)) pe_int (nomark _))
 (pss_cons (ps_set (i := 2) sc_law_draw.nd rfl (by first | exact Or.inl rfl | exact Or.inr rfl) (pe_op u_mod (pe_ix u_ix (pv 0) pe_int (fun _ _ => rfl)) (pv 1)))
 (pss_cons (ps_asg (pe_op u_div (pe_ix u_ix (pv 0) pe_int (fun _ _ => rfl)) (pv 1)) (pg_sub (pv 0) pe_int u_set))
 (pss_one (ps_ret (pv 2)))))
 pss_nil)
 (pss_cons (ps_asg (pe_op u_add (pe_ix u_ix (pv 0) pe_int (fun _ _ => rfl)) pe_int) (pg_sub (pv 0) pe_int u_set))
 (pss_cons (ps_set (i := 3) sc_law_draw.nd rfl (by first | exact Or.inl rfl | exact Or.inr rfl) (pe_ix u_ix (pe_lst (pa_cons pe_int (pa_cons pe_int (pa_cons pe_int (pa_cons pe_int (pa_cons pe_int pa_nil)))))) (pe_op u_mod (pe_ix u_ix (pv 0) pe_int (fun _ _ => rfl)) pe_int) (fun _ _ => rfl)))
 (pss_cons (ps_set (i := 4) sc_law_draw.nd rfl (by first | exact Or.inl rfl | exact Or.inr rfl) (pe_op u_mod (pe_op u_pow (pe_op u_add (pe_op u_add (pe_ix u_ix (pv 0) pe_int (fun _ _ => rfl)) (pe_op u_mul pe_int (pe_ix u_ix (pv 0) pe_int (fun _ _ => rfl)))) pe_int) pe_int) (pv 3)))
 (pss_cons (ps_set (i := 4) sc_law_draw.nd rfl (by first | exact Or.inl rfl | exact Or.inr rfl) (pe_op u_mod (pe_op u_mul (pe_op u_add (pv 4) (pe_ix u_ix (pv 0) pe_int (fun _ _ => rfl))) (pe_op u_add (pe_op u_div (pv 4) pe_int) pe_int)) (pv 3)))
 (pss_one (ps_ret (pe_op u_mod (pe_op u_div (pv 4) pe_int) (pv 1)))))))))

theorem sc_law_one : FnScope ["_law_well_here", "_law_some"] ["_law_well_here", "_law_some"] (defScope s_law_one) := ⟨rfl, rfl, rfl, by decide +kernel, rfl, by decide +kernel, by decide +kernel⟩
theorem ok_law_one {P : Program} {w : World} {K : PySem.W.Frag} {mg : Str → Option Value} {base : Heap} {C : Addr} (T : Txt K mg C) : Cal P w K mg base CX0 2 "_law_one" ["_law_well_here", "_law_some"] (sp_law_one K) := by
  refine Cal.of (st := s_law_one) T.d_law_one sc_law_one (fun _ _ _ _ _ _ us hl => match us, hl with | [_, _], _ => rfl) (len_law_one K) fun f cdv A outer s H vs Q E hr h => ⟨t_law_one K, ?_, p_law_one K vs H Q E h⟩
  exact (pss_one (ps_ret (pe_ix u_ix (pv 1) (pe_callC (ok_law_draw T) (hr.mono (by decide)) (by rfl) pass0 (pa_cons (pv 0) (pa_cons (pe_callB u_len (by rfl) T.m_len PySem.boot_len (pa_cons (pv 1) pa_nil)) pa_nil))) (fun _ _ => rfl))))

theorem sc_law_text : FnScope ["_law_well_here", "_law_least", "_law_most", "_law_letters", "_law_k"] ["_law_well_here", "_law_least", "_law_most"] (defScope s_law_text) := ⟨rfl, rfl, rfl, by decide +kernel, rfl, by decide +kernel, by decide +kernel⟩
theorem ok_law_text {P : Program} {w : World} {K : PySem.W.Frag} {mg : Str → Option Value} {base : Heap} {C : Addr} (T : Txt K mg C) : Cal P w K mg base CX0 3 "_law_text" ["_law_well_here", "_law_least", "_law_most"] (sp_law_text K) := by
  refine Cal.of (st := s_law_text) T.d_law_text sc_law_text (fun _ _ _ _ _ _ us hl => match us, hl with | [_, _, _], _ => rfl) (len_law_text K) fun f cdv A outer s H vs Q E hr h => ⟨t_law_text K, ?_, p_law_text K vs H Q E h⟩
  exact (pss_cons (ps_set (i := 3) sc_law_text.nd rfl (by first | exact Or.inl rfl | exact Or.inr rfl) pe_str)
 (pss_one (ps_ret (pe_join pe_str (pe_lc (own := [("_law_k", 4)]) (g := (gName 4)) (tt := tYes) rfl sc_law_text.nd (pi_range1 (by rfl) T.m_range (pa_cons (pe_op u_add (pv 1) (pe_callC (ok_law_draw T) (hr.mono (by decide)) (by rfl) pass0 (pa_cons (pv 0) (pa_cons (pe_op u_add (pe_op u_sub (pv 2) (pv 1)) pe_int) pa_nil)))) pa_nil)) (blkOk_by (N := ["_law_well_here", "_law_least", "_law_most", "_law_letters", "_law_k"]) (sc := (defScope s_law_text)) (own := [("_law_k", 4)]) (by decide +kernel)) (fun _ _ _ _ _ => (pg_name (i := 4) sc_law_text.nd rfl (by first | exact Or.inl rfl | exact Or.inr rfl))) (fun _ _ _ _ _ => pts_nil) (fun _ _ _ _ _ => (pe_callC (ok_law_one T) (hr.mono (by decide)) (by rfl) pass0 (pa_cons (pv 0) (pa_cons (pv 3) pa_nil)))))))))

theorem sc_law_thing : FnScope ["_law_well_here", "_law_nodes", "_law_way", "_law_number"] ["_law_well_here", "_law_nodes"] (defScope s_law_thing) := ⟨rfl, rfl, rfl, by decide +kernel, rfl, by decide +kernel, by decide +kernel⟩
theorem ok_law_thing {P : Program} {w : World} {K : PySem.W.Frag} {mg : Str → Option Value} {base : Heap} {C : Addr} (T : Txt K mg C) : Cal P w K mg base CX0 4 "_law_thing" ["_law_well_here", "_law_nodes"] (sp_law_thing K) := by
  refine Cal.of (st := s_law_thing) T.d_law_thing sc_law_thing (fun _ _ _ _ _ _ us hl => match us, hl with | [_, _], _ => rfl) (len_law_thing K) fun f cdv A outer s H vs Q E hr h => ⟨t_law_thing K C, ?_, p_law_thing K C T.own vs H Q E h⟩
  exact (pss_cons (ps_set (i := 2) sc_law_thing.nd rfl (by first | exact Or.inl rfl | exact Or.inr rfl) (pe_callC (ok_law_draw T) (hr.mono (by decide)) (by rfl) pass0 (pa_cons (pv 0) (pa_cons pe_int pa_nil))))
 (pss_cons (ps_set (i := 3) sc_law_thing.nd rfl (by first | exact Or.inl rfl | exact Or.inr rfl) (pe_op u_sub (pe_callC (ok_law_draw T) (hr.mono (by decide)) (by rfl) pass0 (pa_cons (pv 0) (pa_cons (pe_op u_pow pe_int pe_int) pa_nil))) (pe_op u_mul pe_int (pe_op u_pow pe_int pe_int))))
 (pss_cons (ps_if (pt_cmpR (u_eq hr.units) (pv 2) pe_int (nomark _))
 (pss_one (ps_ret (pv 3)))
 pss_nil)
 (pss_cons (ps_if (pt_cmpR (u_eq hr.units) (pv 2) pe_int (nomark _))
 (pss_one (ps_ret (pe_cmpR u_gt (pv 3) pe_int (nomark _))))
 pss_nil)
 (pss_cons (ps_if (pt_cmpR (u_eq hr.units) (pv 2) pe_int (nomark _))
 (pss_one (ps_ret (pe_callC (ok_law_text T) (hr.mono (by decide)) (by rfl) pass0 (pa_cons (pv 0) (pa_cons pe_int (pa_cons pe_int pa_nil))))))
 pss_nil)
 (pss_cons (ps_if (pt_cmpR (u_eq hr.units) (pv 2) pe_int (nomark _))
 (pss_one (ps_ret pe_non))
 pss_nil)
 (pss_cons (ps_if (pt_cmpR (u_eq hr.units) (pv 2) pe_int (nomark _))
 (pss_one (ps_ret (pe_slice sl_tupA (pe_tup (pa_cons (pv 3) (pa_cons (pe_tup (pa_cons (pv 3) (pa_cons pe_non pa_nil))) pa_nil))) po_none (po_some (pe_callC (ok_law_draw T) (hr.mono (by decide)) (by rfl) pass0 (pa_cons (pv 0) (pa_cons pe_int pa_nil)))))))
 pss_nil)
 (pss_cons (ps_if (pt_cmpR (u_eq hr.units) (pv 2) pe_int (nomark _))
 (pss_one (ps_ret (pe_makeD (n := 2) (ks := []) (fun us its ws => us) T.mk_Case T.kc_Case (ok_Case___init__ T) (by simp) (fun r d z => r) (fun _ _ _ _ _ _ _ us its ws h1 h2 h3 => match us, its, ws, h1, h2, h3 with | [_, _, _], [_], [], _, _, _ => ⟨_, rfl, rfl⟩) (hr.mono (by decide)) (by rfl) T.g_Case pass0 (pa_cons (pe_callC (ok_law_text T) (hr.mono (by decide)) (by rfl) pass0 (pa_cons (pv 0) (pa_cons pe_int (pa_cons pe_int pa_nil)))) (pa_cons (pv 3) pa_nil)) pk_nil)))
 pss_nil)
 (pss_one (ps_ret (pe_callC (ok_law_one T) (hr.mono (by decide)) (by rfl) pass0 (pa_cons (pv 0) (pa_cons (pv 1) pa_nil)))))))))))))

theorem sc_law_alike : FnScope ["_law_found", "_law_due"] ["_law_found", "_law_due"] (defScope s_law_alike) := ⟨rfl, rfl, rfl, by decide +kernel, rfl, by decide +kernel, by decide +kernel⟩
theorem ok_law_alike {P : Program} {w : World} {K : PySem.W.Frag} {mg : Str → Option Value} {base : Heap} {C : Addr} (T : Txt K mg C) : Cal P w K mg base CX0 1 "_law_alike" ["_law_found", "_law_due"] (sp_law_alike K) := by
  refine Cal.of (st := s_law_alike) T.d_law_alike sc_law_alike (fun _ _ _ _ _ _ us hl => match us, hl with | [_, _], _ => rfl) (len_law_alike K) fun f cdv A outer s H vs Q E hr h => ⟨t_law_alike K, ?_, p_law_alike K vs H Q E h⟩
  exact (pss_one (ps_ret (pe_and (pe_cmpR (u_eq hr.units) (pe_callB u_isi (by rfl) T.m_isinstance (by decide +kernel) (pa_cons (pv 0) (pa_cons (pe_bltn (v := .ty "bool") (by rfl) T.m_bool (by decide +kernel) rfl) pa_nil))) (pe_callB u_isi (by rfl) T.m_isinstance (by decide +kernel) (pa_cons (pv 1) (pa_cons (pe_bltn (v := .ty "bool") (by rfl) T.m_bool (by decide +kernel) rfl) pa_nil))) (nomark _)) (pe_one (pe_cmpR (u_eqS hr.units) (pv 0) (pv 1) (nomark _))))))

theorem sc_law_right : FnScope ["_law_node", "_law_sort", "_law_due", "_law_called"] ["_law_node", "_law_sort", "_law_due"] (defScope s_law_right) := ⟨rfl, rfl, rfl, by decide +kernel, rfl, by decide +kernel, by decide +kernel⟩
theorem ok_law_right {P : Program} {w : World} {K : PySem.W.Frag} {mg : Str → Option Value} {base : Heap} {C : Addr} (T : Txt K mg C) : Cal P w K mg base CX0 2 "_law_right" ["_law_node", "_law_sort", "_law_due"] (sp_law_right K) := by
  refine Cal.of (st := s_law_right) T.d_law_right sc_law_right (fun _ _ _ _ _ _ us hl => match us, hl with | [_, _, _], _ => rfl) (len_law_right K) fun f cdv A outer s H vs Q E hr h => ⟨t_law_right K C, ?_, p_law_right K C T.own vs H Q E h⟩
  exact (pss_cons (ps_if (PW.pt (pw_or (pt_cmpR (u_ne hr.units) (pe_fldU (pv 0) (by rfl)) (pv 1) (nomark _)) (pw_or (pt_not (pt_truth (pe_callB u_isi (by rfl) T.m_isinstance (by decide +kernel) (pa_cons (pe_fldU (pv 0) (by rfl)) (pa_cons (pe_bltn (v := .ty "dict") (by rfl) T.m_dict (by decide +kernel) rfl) pa_nil))) (by intro _; rfl))) (pw_or1 (pt_cmpR (u_ne hr.units) (pe_callB u_len (by rfl) T.m_len PySem.boot_len (pa_cons (pe_fldU (pv 0) (by rfl)) pa_nil)) (pe_callB u_len (by rfl) T.m_len PySem.boot_len (pa_cons (pv 2) pa_nil)) (nomark _))))))
 (pss_one (ps_ret pe_bl))
 pss_nil)
 (pss_cons (ps_lock (ps_for PassesOwn.never rfl (pi_keys (pv 2)) (pg_name (i := 3) sc_law_right.nd rfl (by first | exact Or.inl rfl | exact Or.inr rfl))
 (pss_one (ps_if (PW.pt (pw_or (pt_cmp (pc_dnotin (hu_of hr) (pv 3) (pe_fldU (pv 0) (by rfl)))) (pw_or1 (pt_not (pt_truth (pe_callC (ok_law_alike T) (hr.mono (by decide)) (by rfl) pass0 (pa_cons (pe_dget (hu_of hr) (pe_fldU (pv 0) (by rfl)) (pv 3) (fun _ _ => rfl)) (pa_cons (pe_dget (hu_of hr) (pv 2) (pv 3) (fun _ _ => rfl)) pa_nil))) (by intro _; rfl))))))
 (pss_one (ps_ret pe_bl))
 pss_nil))))
 (pss_one (ps_ret pe_bl))))

theorem sc_law_made : FnScope ["_law_way", "_law_sort", "_law_due", "_law_handed", "_law_node", "_law_at", "_law_called"] ["_law_way", "_law_sort", "_law_due"] (defScope s_law_made) := ⟨rfl, rfl, rfl, by decide +kernel, rfl, by decide +kernel, by decide +kernel⟩
theorem ok_law_made {P : Program} {w : World} {K : PySem.W.Frag} {mg : Str → Option Value} {base : Heap} {C : Addr} (T : Txt K mg C) : Cal P w K mg base CX0 3 "_law_made" ["_law_way", "_law_sort", "_law_due"] (sp_law_made K) := by
  refine Cal.of (st := s_law_made) T.d_law_made sc_law_made (fun _ _ _ _ _ _ us hl => match us, hl with | [_, _, _], _ => rfl) (len_law_made K) fun f cdv A outer s H vs Q E hr h => ⟨t_law_made K C, ?_, p_law_made K C T.own vs H Q E h⟩
  exact (pss_cons (ps_if (pt_cmpR (u_eq hr.units) (pv 0) pe_int (nomark _))
 (pss_cons (ps_set (i := 3) sc_law_made.nd rfl (by first | exact Or.inl rfl | exact Or.inr rfl) (pe_callTy (u_dict rfl) (by rfl) T.m_dict (by decide +kernel) (pa_cons (pv 2) pa_nil)))
 (pss_cons (ps_set (i := 4) sc_law_made.nd rfl (by first | exact Or.inl rfl | exact Or.inr rfl) (pe_makeD (n := 2) (ks := []) (fun us its ws => us) T.mk_Node T.kc_Node (ok_Node___init__ T) (by simp) (fun r d z => r) (fun _ _ _ _ _ _ _ us its ws h1 h2 h3 => match us, its, ws, h1, h2, h3 with | [_, _, _], [_], [], _, _, _ => ⟨_, rfl, rfl⟩) (hr.mono (by decide)) (by rfl) T.g_Node pass0 (pa_cons (pv 1) (pa_cons (pv 3) pa_nil)) pk_nil))
 (pss_cons (ps_expr (pe_bm0 PySem.F.plainAttrs_dict PySem.F.slot_dict_clear PySem.F.type_dict_clear mt_dclear (pv 3)))
 (pss_one (ps_ret (pv 4))))))
 pss_nil)
 (pss_cons (ps_if (pt_cmpR (u_eq hr.units) (pv 0) pe_int (nomark _))
 (pss_cons (ps_set (i := 3) sc_law_made.nd rfl (by first | exact Or.inl rfl | exact Or.inr rfl) (LiI.pe_listItems rfl (pv 2) (by rfl) T.m_list (by decide +kernel)))
 (pss_cons (ps_set (i := 4) sc_law_made.nd rfl (by first | exact Or.inl rfl | exact Or.inr rfl) (pe_makeD0 (ks := ["fields", "kind"]) (fun us its ws => us ++ ws.reverse) T.mk_Node T.kc_Node (ok_Node___init__ T) (by simp) (fun r d z => (r.append z.reverse)) (fun _ _ _ _ _ _ _ us its ws h1 h2 h3 => match us, its, ws, h1, h2, h3 with | [_], [_], [_, _], _, _, _ => ⟨_, rfl, rfl⟩) (hr.mono (by decide)) (by rfl) T.g_Node pass0 (pk_cons (pv 3) (pk_cons (pv 1) pk_nil))))
 (pss_cons (ps_expr (pe_bm0 PySem.F.plainAttrs_list PySem.F.slot_list_clear PySem.F.type_list_clear mt_clear (pv 3)))
 (pss_one (ps_ret (pv 4))))))
 pss_nil)
 (pss_cons (ps_if (pt_cmpR (u_eq hr.units) (pv 0) pe_int (nomark _))
 (pss_one (ps_ret (pe_makeD (n := 1) (ks := ["fields"]) (fun us its ws => us ++ ws) T.mk_Node T.kc_Node (ok_Node___init__ T) (by simp) (fun r d z => (r.append z)) (fun _ _ _ _ _ _ _ us its ws h1 h2 h3 => match us, its, ws, h1, h2, h3 with | [_, _], [_], [_], _, _, _ => ⟨_, rfl, rfl⟩) (hr.mono (by decide)) (by rfl) T.g_Node pass0 (pa_cons (pv 1) pa_nil) (pk_cons (pe_tupItems rfl (pv 2) (by rfl) T.m_tuple) pk_nil))))
 pss_nil)
 (pss_cons (ps_set (i := 4) sc_law_made.nd rfl (by first | exact Or.inl rfl | exact Or.inr rfl) (pe_makeD (n := 1) (ks := []) (fun us its ws => us ++ its) T.mk_Node T.kc_Node (ok_Node___init__ T) (by simp) (fun r d z => (r.append d)) (fun _ _ _ _ _ _ _ us its ws h1 h2 h3 => match us, its, ws, h1, h2, h3 with | [_, _], [_], [], _, _, _ => ⟨_, rfl, rfl⟩) (hr.mono (by decide)) (by rfl) T.g_Node pass0 (pa_cons (pv 1) pa_nil) pk_nil))
 (pss_cons (ps_lock (ps_for PassesOwn.never rfl (pi_enumD (by rfl) T.m_enumerate (pv 2)) (pg_tup (by rfl) (pgs_cons (pg_name (i := 5) sc_law_made.nd rfl (by first | exact Or.inl rfl | exact Or.inr rfl)) (pgs_cons (pg_name (i := 6) sc_law_made.nd rfl (by first | exact Or.inl rfl | exact Or.inr rfl)) pgs_nil)))
 (pss_one (ps_if (pt_cmpR (u_eq hr.units) (pe_op u_mod (pv 5) pe_int) pe_int (nomark _))
 (pss_one (ps_expr (pe_methM (pv 4) T.own.Node.cl (CalF.calM (ok_Node_put T) (fun _ _ _ _ _ _ us hl => match us, hl with | [_, _, _], _ => rfl)) (hr.mono (by decide)) pass0 (pa_cons (pv 6) (pa_cons (pe_dget (hu_of hr) (pv 2) (pv 6) (fun _ _ => rfl)) pa_nil)))))
 (pss_one (ps_expr (pe_methK (ks := ["thing", "name"]) (fun us ws => us ++ ws.reverse) (pv 4) T.own.Node.cl (ok_Node_put T) (fun r z => r.append z.reverse) (fun _ _ _ _ _ _ us ws h1 h2 => match us, ws, h1, h2 with | [_], [_, _], _, _ => rfl) (hr.mono (by decide)) pass0 (pk_cons (pe_dget (hu_of hr) (pv 2) (pv 6) (fun _ _ => rfl)) (pk_cons (pv 6) pk_nil)))))))))
 (pss_one (ps_ret (pv 4))))))))

theorem sc_law_cases_right : FnScope ["_law_well_here", "_law_text_here", "_law_what", "_law_some", "_law_one_here"] ["_law_well_here"] (defScope s_law_cases_right) := ⟨rfl, rfl, rfl, by decide +kernel, rfl, by decide +kernel, by decide +kernel⟩
theorem ok_law_cases_right {P : Program} {w : World} {K : PySem.W.Frag} {mg : Str → Option Value} {base : Heap} {C : Addr} (T : Txt K mg C) : Cal P w K mg base CX0 4 "_law_cases_right" ["_law_well_here"] (sp_law_cases_right K) := by
  refine Cal.of (st := s_law_cases_right) T.d_law_cases_right sc_law_cases_right (fun _ _ _ _ _ _ us hl => match us, hl with | [_], _ => rfl) (len_law_cases_right K) fun f cdv A outer s H vs Q E hr h => ⟨t_law_cases_right K C, ?_, p_law_cases_right K C T.own vs H Q E h⟩
  exact (pss_cons (ps_set (i := 1) sc_law_cases_right.nd rfl (by first | exact Or.inl rfl | exact Or.inr rfl) (pe_callC (ok_law_text T) (hr.mono (by decide)) (by rfl) pass0 (pa_cons (pv 0) (pa_cons pe_int (pa_cons pe_int pa_nil)))))
 (pss_cons (ps_set (i := 2) sc_law_cases_right.nd rfl (by first | exact Or.inl rfl | exact Or.inr rfl) (pe_callC (ok_law_one T) (hr.mono (by decide)) (by rfl) pass0 (pa_cons (pv 0) (pa_cons (pe_lst (pa_cons pe_int (pa_cons pe_bl (pa_cons pe_str (pa_cons (pe_tup pa_nil) (pa_cons pe_non (pa_cons pe_str (pa_cons (pe_tup (pa_cons pe_int (pa_cons pe_int pa_nil))) (pa_cons (pe_makeD (n := 1) (ks := []) (fun us its ws => us ++ its) T.mk_Node T.kc_Node (ok_Node___init__ T) (by simp) (fun r d z => (r.append d)) (fun _ _ _ _ _ _ _ us its ws h1 h2 h3 => match us, its, ws, h1, h2, h3 with | [_, _], [_], [], _, _, _ => ⟨_, rfl, rfl⟩) (hr.mono (by decide)) (by rfl) T.g_Node pass0 (pa_cons pe_str pa_nil) pk_nil) pa_nil))))))))) pa_nil))))
 (pss_cons (ps_set (i := 3) sc_law_cases_right.nd rfl (by first | exact Or.inl rfl | exact Or.inr rfl) (pe_lst (pa_cons (pe_makeD (n := 2) (ks := []) (fun us its ws => us) T.mk_Case T.kc_Case (ok_Case___init__ T) (by simp) (fun r d z => r) (fun _ _ _ _ _ _ _ us its ws h1 h2 h3 => match us, its, ws, h1, h2, h3 with | [_, _, _], [_], [], _, _, _ => ⟨_, rfl, rfl⟩) (hr.mono (by decide)) (by rfl) T.g_Case pass0 (pa_cons (pv 1) (pa_cons (pv 2) pa_nil)) pk_nil) (pa_cons (pe_makeD0 (ks := ["content", "word"]) (fun us its ws => us ++ ws.reverse) T.mk_Case T.kc_Case (ok_Case___init__ T) (by simp) (fun r d z => (r.append z.reverse)) (fun _ _ _ _ _ _ _ us its ws h1 h2 h3 => match us, its, ws, h1, h2, h3 with | [_], [_], [_, _], _, _, _ => ⟨_, rfl, rfl⟩) (hr.mono (by decide)) (by rfl) T.g_Case pass0 (pk_cons (pv 2) (pk_cons (pv 1) pk_nil))) (pa_cons (pe_makeD (n := 1) (ks := ["content"]) (fun us its ws => us ++ ws) T.mk_Case T.kc_Case (ok_Case___init__ T) (by simp) (fun r d z => (r.append z)) (fun _ _ _ _ _ _ _ us its ws h1 h2 h3 => match us, its, ws, h1, h2, h3 with | [_, _], [_], [_], _, _, _ => ⟨_, rfl, rfl⟩) (hr.mono (by decide)) (by rfl) T.g_Case pass0 (pa_cons (pv 1) pa_nil) (pk_cons (pv 2) pk_nil)) pa_nil)))))
 (pss_cons (ps_if (pt_cmpR (u_ne hr.units) (pe_lc (own := [("_law_one_here", 4)]) (g := (gName 4)) (tt := (tOr (tTest (tOp (rNeU K) (tUn (rFldU K "word") (tVar 4)) (tVar 1))) (tNot (tTru K (tCall (sp_law_alike K) [] E0 (tCons (tUn (rFldU K "content") (tVar 4)) (tCons (tVar 2) tNil))))))) rfl sc_law_cases_right.nd (pi_list (pv 3)) (blkOk_by (N := ["_law_well_here", "_law_text_here", "_law_what", "_law_some", "_law_one_here"]) (sc := (defScope s_law_cases_right)) (own := [("_law_one_here", 4)]) (by decide +kernel)) (fun _ _ _ _ _ => (pg_name (i := 4) sc_law_cases_right.nd rfl (by first | exact Or.inl rfl | exact Or.inr rfl))) (fun _ _ _ _ _ => (pts_one (PW.pt (pw_or (pt_cmpR (u_ne hr.units) (pe_fldU (pv 4) (by rfl)) (pv 1) (nomark _)) (pw_or1 (pt_not (pt_truth (pe_callC (ok_law_alike T) (hr.mono (by decide)) (by rfl) pass0 (pa_cons (pe_fldU (pv 4) (by rfl)) (pa_cons (pv 2) pa_nil))) (by intro _; rfl)))))))) (fun _ _ _ _ _ => (pv 4))) (pe_lst pa_nil) (nomark _))
 (pss_one (ps_ret pe_bl))
 pss_nil)
 (pss_one (ps_ret (pe_and (pe_cmpR u_isN (pe_fldU (pe_makeD (n := 1) (ks := []) (fun us its ws => us ++ its) T.mk_Case T.kc_Case (ok_Case___init__ T) (by simp) (fun r d z => (r.append d)) (fun _ _ _ _ _ _ _ us its ws h1 h2 h3 => match us, its, ws, h1, h2, h3 with | [_, _], [_], [], _, _, _ => ⟨_, rfl, rfl⟩) (hr.mono (by decide)) (by rfl) T.g_Case pass0 (pa_cons (pv 1) pa_nil) pk_nil) (by rfl)) pe_non (nomark _)) (pe_one (pe_cmpR (u_eq hr.units) (pe_fldU (pe_makeD0 (ks := ["word"]) (fun us its ws => us ++ ws ++ its) T.mk_Case T.kc_Case (ok_Case___init__ T) (by simp) (fun r d z => ((r.append z).append d)) (fun _ _ _ _ _ _ _ us its ws h1 h2 h3 => match us, its, ws, h1, h2, h3 with | [_], [_], [_], _, _, _ => ⟨_, rfl, rfl⟩) (hr.mono (by decide)) (by rfl) T.g_Case pass0 (pk_cons (pv 1) pk_nil)) (by rfl)) (pv 1) (nomark _))))))))))

theorem sc_law : FnScope ["_law_script", "_law_cell", "_law_well_here", "_law_ways", "_law_blanks", "_law_nodes", "_law_dues", "_law_sorts", "_law_way", "_law_names", "_law_due", "_law_k", "_law_at", "_law_called", "_law_what", "_law_node", "_law_sort"] ["_law_script"] (defScope s_law) := ⟨rfl, rfl, rfl, by decide +kernel, rfl, by decide +kernel, by decide +kernel⟩
theorem ok_law {P : Program} {w : World} {K : PySem.W.Frag} {mg : Str → Option Value} {base : Heap} {C : Addr} (T : Txt K mg C) : Cal P w K mg base CX0 5 "law" ["_law_script"] (sp_law K) := by
  refine Cal.of (st := s_law) T.d_law sc_law (fun _ _ _ _ _ _ us hl => match us, hl with | [_], _ => rfl) (len_law K) fun f cdv A outer s H vs Q E hr h => ⟨t_law K C, ?_, p_law K C T.own vs H Q E h⟩
  unfold t_law b_law_0 b_law_2 b_law_4 b_law_3 b_law_1
  exact (pss_cons (ps_for PassesOwn.never rfl (pi_list (pe_op u_add (pe_slice u_slL (pv 0) po_none (po_some pe_int)) (pe_lst (pa_cons pe_int pa_nil)))) (pg_name (i := 1) sc_law.nd rfl (by first | exact Or.inl rfl | exact Or.inr rfl))
 (pss_cons (ps_set (i := 2) sc_law.nd rfl (by first | exact Or.inl rfl | exact Or.inr rfl) (pe_callC (ok_law_well T) (hr.mono (by decide)) (by rfl) pass0 (pa_cons (pv 1) pa_nil)))
 (pss_cons (ps_setLc (i := 3) (own := [("_law_k", 11)]) (g := (gName 11)) (tt := tYes) rfl sc_law.nd rfl rfl (sw_true rfl rfl rfl (by decide +kernel)) (pi_range1 (by rfl) T.m_range (pa_cons (pe_op u_add pe_int (pe_callC (ok_law_draw T) (hr.mono (by decide)) (by rfl) pass0 (pa_cons (pv 2) (pa_cons pe_int pa_nil)))) pa_nil)) (blkOk_by (N := ["_law_script", "_law_cell", "_law_well_here", "_law_ways", "_law_blanks", "_law_nodes", "_law_dues", "_law_sorts", "_law_way", "_law_names", "_law_due", "_law_k", "_law_at", "_law_called", "_law_what", "_law_node", "_law_sort"]) (sc := (defScope s_law)) (own := [("_law_k", 11)]) (by decide +kernel)) (fun _ _ _ _ _ => (pg_name (i := 11) sc_law.nd rfl (by first | exact Or.inl rfl | exact Or.inr rfl))) (fun _ _ _ _ _ => pts_nil) (fun _ _ _ _ _ => (pe_callC (ok_law_draw T) (hr.mono (by decide)) (by rfl) pass0 (pa_cons (pv 2) (pa_cons pe_int pa_nil)))))
 (pss_cons (ps_set (i := 4) sc_law.nd rfl (by first | exact Or.inl rfl | exact Or.inr rfl) (pe_lst (pa_cons (pe_makeD (n := 1) (ks := []) (fun us its ws => us ++ its) T.mk_Node T.kc_Node (ok_Node___init__ T) (by simp) (fun r d z => (r.append d)) (fun _ _ _ _ _ _ _ us its ws h1 h2 h3 => match us, its, ws, h1, h2, h3 with | [_, _], [_], [], _, _, _ => ⟨_, rfl, rfl⟩) (hr.mono (by decide)) (by rfl) T.g_Node pass0 (pa_cons pe_str pa_nil) pk_nil) (pa_cons (pe_makeD (n := 1) (ks := []) (fun us its ws => us ++ its) T.mk_Node T.kc_Node (ok_Node___init__ T) (by simp) (fun r d z => (r.append d)) (fun _ _ _ _ _ _ _ us its ws h1 h2 h3 => match us, its, ws, h1, h2, h3 with | [_, _], [_], [], _, _, _ => ⟨_, rfl, rfl⟩) (hr.mono (by decide)) (by rfl) T.g_Node pass0 (pa_cons pe_str pa_nil) pk_nil) pa_nil))))
 (pss_cons (ps_set (i := 5) sc_law.nd rfl (by first | exact Or.inl rfl | exact Or.inr rfl) (pe_lst pa_nil))
 (pss_cons (ps_set (i := 6) sc_law.nd rfl (by first | exact Or.inl rfl | exact Or.inr rfl) (pe_lst pa_nil))
 (pss_cons (ps_set (i := 7) sc_law.nd rfl (by first | exact Or.inl rfl | exact Or.inr rfl) (pe_lst pa_nil))
 (pss_cons (ps_for PassesOwn.never rfl (pi_list (pv 3)) (pg_name (i := 8) sc_law.nd rfl (by first | exact Or.inl rfl | exact Or.inr rfl))
 (pss_cons (ps_setLc (i := 9) (own := [("_law_k", 11)]) (g := (gName 11)) (tt := tYes) rfl sc_law.nd rfl rfl (sw_true rfl rfl rfl (by decide +kernel)) (pi_range1 (by rfl) T.m_range (pa_cons (pe_callC (ok_law_draw T) (hr.mono (by decide)) (by rfl) pass0 (pa_cons (pv 2) (pa_cons pe_int pa_nil))) pa_nil)) (blkOk_by (N := ["_law_script", "_law_cell", "_law_well_here", "_law_ways", "_law_blanks", "_law_nodes", "_law_dues", "_law_sorts", "_law_way", "_law_names", "_law_due", "_law_k", "_law_at", "_law_called", "_law_what", "_law_node", "_law_sort"]) (sc := (defScope s_law)) (own := [("_law_k", 11)]) (by decide +kernel)) (fun _ _ _ _ _ => (pg_name (i := 11) sc_law.nd rfl (by first | exact Or.inl rfl | exact Or.inr rfl))) (fun _ _ _ _ _ => pts_nil) (fun _ _ _ _ _ => (pe_callC (ok_law_text T) (hr.mono (by decide)) (by rfl) pass0 (pa_cons (pv 2) (pa_cons pe_int (pa_cons pe_int pa_nil))))))
 (pss_cons (ps_set (i := 10) sc_law.nd rfl (by first | exact Or.inl rfl | exact Or.inr rfl) (pe_callTy (u_dict rfl) (by rfl) T.m_dict (by decide +kernel) (pa_cons (pe_lc (own := [("_law_called", 13)]) (g := (gName 13)) (tt := tYes) rfl sc_law.nd (pi_list (pv 9)) (blkOk_by (N := ["_law_script", "_law_cell", "_law_well_here", "_law_ways", "_law_blanks", "_law_nodes", "_law_dues", "_law_sorts", "_law_way", "_law_names", "_law_due", "_law_k", "_law_at", "_law_called", "_law_what", "_law_node", "_law_sort"]) (sc := (defScope s_law)) (own := [("_law_called", 13)]) (by decide +kernel)) (fun _ _ _ _ _ => (pg_name (i := 13) sc_law.nd rfl (by first | exact Or.inl rfl | exact Or.inr rfl))) (fun _ _ _ _ _ => pts_nil) (fun _ _ _ _ _ => (pe_tup (pa_cons (pv 13) (pa_cons (pe_callC (ok_law_thing T) (hr.mono (by decide)) (by rfl) pass0 (pa_cons (pv 2) (pa_cons (pe_op u_add (pv 4) (pv 5)) pa_nil))) pa_nil))))) pa_nil)))
 (pss_cons (ps_expr (pe_bm PySem.F.plainAttrs_list PySem.F.slot_list_append PySem.F.type_list_append u_append (pv 7) (pa_cons (pe_callC (ok_law_text T) (hr.mono (by decide)) (by rfl) pass0 (pa_cons (pv 2) (pa_cons pe_int (pa_cons pe_int pa_nil)))) pa_nil)))
 (pss_cons (ps_expr (pe_bm PySem.F.plainAttrs_list PySem.F.slot_list_append PySem.F.type_list_append u_append (pv 5) (pa_cons (pe_callC (ok_law_made T) (hr.mono (by decide)) (by rfl) pass0 (pa_cons (pv 8) (pa_cons (pe_ix u_ix (pv 7) (pe_un u_neg pe_int) (fun _ _ => rfl)) (pa_cons (pv 10) pa_nil)))) pa_nil)))
 (pss_one (ps_expr (pe_bm PySem.F.plainAttrs_list PySem.F.slot_list_append PySem.F.type_list_append u_append (pv 6) (pa_cons (pv 10) pa_nil)))))))))
 (pss_cons (ps_for PassesOwn.never rfl (pi_range1 (by rfl) T.m_range (pa_cons (pe_callC (ok_law_draw T) (hr.mono (by decide)) (by rfl) pass0 (pa_cons (pv 2) (pa_cons pe_int pa_nil))) pa_nil)) (pg_name (i := 11) sc_law.nd rfl (by first | exact Or.inl rfl | exact Or.inr rfl))
 (pss_cons (ps_set (i := 12) sc_law.nd rfl (by first | exact Or.inl rfl | exact Or.inr rfl) (pe_callC (ok_law_draw T) (hr.mono (by decide)) (by rfl) pass0 (pa_cons (pv 2) (pa_cons (pe_callB u_len (by rfl) T.m_len PySem.boot_len (pa_cons (pv 5) pa_nil)) pa_nil))))
 (pss_cons (ps_set (i := 13) sc_law.nd rfl (by first | exact Or.inl rfl | exact Or.inr rfl) (pe_callC (ok_law_one T) (hr.mono (by decide)) (by rfl) pass0 (pa_cons (pv 2) (pa_cons (pe_op u_add (pe_callTy (u_listD rfl) (by rfl) T.m_list (by decide +kernel) (pa_cons (pe_ix u_ix (pv 6) (pv 12) (fun _ _ => rfl)) pa_nil)) (pe_lst (pa_cons (pe_callC (ok_law_text T) (hr.mono (by decide)) (by rfl) pass0 (pa_cons (pv 2) (pa_cons pe_int (pa_cons pe_int pa_nil)))) pa_nil))) pa_nil))))
 (pss_cons (ps_set (i := 14) sc_law.nd rfl (by first | exact Or.inl rfl | exact Or.inr rfl) (pe_callC (ok_law_thing T) (hr.mono (by decide)) (by rfl) pass0 (pa_cons (pv 2) (pa_cons (pv 5) pa_nil))))
 (pss_cons (ps_expr (pe_methM (pe_ix u_ix (pv 5) (pv 12) (fun _ _ => rfl)) T.own.Node.cl (CalF.calM (ok_Node_put T) (fun _ _ _ _ _ _ us hl => match us, hl with | [_, _, _], _ => rfl)) (hr.mono (by decide)) pass0 (pa_cons (pv 13) (pa_cons (pv 14) pa_nil))))
 (pss_one (ps_dput (hu_of hr) (pe_ix u_ix (pv 6) (pv 12) (fun _ _ => rfl)) (pv 13) (pv 14) rfl)))))))
 (pss_cons (ps_for PassesOwn.never rfl (pi_zip3 (by rfl) T.m_zip (pa_cons (pv 5) (pa_cons (pv 7) (pa_cons (pv 6) pa_nil)))) (pg_tup (by rfl) (pgs_cons (pg_name (i := 15) sc_law.nd rfl (by first | exact Or.inl rfl | exact Or.inr rfl)) (pgs_cons (pg_name (i := 16) sc_law.nd rfl (by first | exact Or.inl rfl | exact Or.inr rfl)) (pgs_cons (pg_name (i := 10) sc_law.nd rfl (by first | exact Or.inl rfl | exact Or.inr rfl)) pgs_nil))))
 (pss_one (ps_if (pt_not (pt_truth (pe_callC (ok_law_right T) (hr.mono (by decide)) (by rfl) pass0 (pa_cons (pv 15) (pa_cons (pv 16) (pa_cons (pv 10) pa_nil)))) (by intro _; rfl)))
 (pss_one (ps_ret pe_bl))
 pss_nil)))
 (pss_one (ps_if (PW.pt (pw_or (pt_not (pt_truth (pe_callC (ok_law_cases_right T) (hr.mono (by decide)) (by rfl) pass0 (pa_cons (pv 2) pa_nil)) (by intro _; rfl))) (pw_or (pt_not (pt_truth (pe_callC (ok_law_right T) (hr.mono (by decide)) (by rfl) pass0 (pa_cons (pe_ix u_ix (pv 4) pe_int (fun _ _ => rfl)) (pa_cons pe_str (pa_cons pe_dnewK pa_nil)))) (by intro _; rfl))) (pw_or1 (pt_not (pt_truth (pe_callC (ok_law_right T) (hr.mono (by decide)) (by rfl) pass0 (pa_cons (pe_ix u_ix (pv 4) pe_int (fun _ _ => rfl)) (pa_cons pe_str (pa_cons pe_dnewK pa_nil)))) (by intro _; rfl)))))))
 (pss_one (ps_ret pe_bl))
 pss_nil))))))))))))
 (pss_one (ps_ret pe_bl)))

theorem txt_mk {K : PySem.W.Frag} {h : Heap} {mg : Str → Option Value} (X : K.In h) (G : h.Ns mainGlobals mg)
    {C : Addr} {C_Node : Addr} {C_Case : Addr} {n_nil : Nat} {s_nil : Array (Option Value)} {f_Node___init__ : Addr} {od_Node___init__ an_Node___init__ : Option Addr} {sl_Node___init__ : Array (Option Value)} {oc_Node___init__ kV_Node___init__ dc_Node___init__ pm_Node___init__ cd_Node___init__ ct_Node___init__ : Value} {D_Node___init__ : Addr} {oc2_Node___init__ : Value} {od2_Node___init__ : Option Addr} {n2_Node___init__ : Nat} {sl2_Node___init__ : Array (Option Value)} {f_Node_put : Addr} {od_Node_put an_Node_put : Option Addr} {sl_Node_put : Array (Option Value)} {oc_Node_put kV_Node_put dc_Node_put pm_Node_put cd_Node_put ct_Node_put : Value} {f_Case___init__ : Addr} {od_Case___init__ an_Case___init__ : Option Addr} {sl_Case___init__ : Array (Option Value)} {oc_Case___init__ kV_Case___init__ dc_Case___init__ pm_Case___init__ cd_Case___init__ ct_Case___init__ : Value} {D_Case___init__ : Addr} {oc2_Case___init__ : Value} {od2_Case___init__ : Option Addr} {n2_Case___init__ : Nat} {sl2_Case___init__ : Array (Option Value)} {f_law_well : Addr} {od_law_well an_law_well : Option Addr} {sl_law_well : Array (Option Value)} {oc_law_well kV_law_well dc_law_well pm_law_well cd_law_well ct_law_well : Value} {f_law_draw : Addr} {od_law_draw an_law_draw : Option Addr} {sl_law_draw : Array (Option Value)} {oc_law_draw kV_law_draw dc_law_draw pm_law_draw cd_law_draw ct_law_draw : Value} {f_law_one : Addr} {od_law_one an_law_one : Option Addr} {sl_law_one : Array (Option Value)} {oc_law_one kV_law_one dc_law_one pm_law_one cd_law_one ct_law_one : Value} {f_law_text : Addr} {od_law_text an_law_text : Option Addr} {sl_law_text : Array (Option Value)} {oc_law_text kV_law_text dc_law_text pm_law_text cd_law_text ct_law_text : Value} {f_law_thing : Addr} {od_law_thing an_law_thing : Option Addr} {sl_law_thing : Array (Option Value)} {oc_law_thing kV_law_thing dc_law_thing pm_law_thing cd_law_thing ct_law_thing : Value} {f_law_alike : Addr} {od_law_alike an_law_alike : Option Addr} {sl_law_alike : Array (Option Value)} {oc_law_alike kV_law_alike dc_law_alike pm_law_alike cd_law_alike ct_law_alike : Value} {f_law_right : Addr} {od_law_right an_law_right : Option Addr} {sl_law_right : Array (Option Value)} {oc_law_right kV_law_right dc_law_right pm_law_right cd_law_right ct_law_right : Value} {f_law_made : Addr} {od_law_made an_law_made : Option Addr} {sl_law_made : Array (Option Value)} {oc_law_made kV_law_made dc_law_made pm_law_made cd_law_made ct_law_made : Value} {f_law_cases_right : Addr} {od_law_cases_right an_law_cases_right : Option Addr} {sl_law_cases_right : Array (Option Value)} {oc_law_cases_right kV_law_cases_right dc_law_cases_right pm_law_cases_right cd_law_cases_right ct_law_cases_right : Value} {f_law : Addr} {od_law an_law : Option Addr} {sl_law : Array (Option Value)} {oc_law kV_law dc_law pm_law cd_law ct_law : Value}
    (z_bool : PySem.W.nsIn K mainGlobals "bool" = some none) (z_dict : PySem.W.nsIn K mainGlobals "dict" = some none) (z_enumerate : PySem.W.nsIn K mainGlobals "enumerate" = some none) (z_int : PySem.W.nsIn K mainGlobals "int" = some none) (z_isinstance : PySem.W.nsIn K mainGlobals "isinstance" = some none) (z_len : PySem.W.nsIn K mainGlobals "len" = some none) (z_list : PySem.W.nsIn K mainGlobals "list" = some none) (z_range : PySem.W.nsIn K mainGlobals "range" = some none) (z_tuple : PySem.W.nsIn K mainGlobals "tuple" = some none) (z_zip : PySem.W.nsIn K mainGlobals "zip" = some none) (at_Node : PySem.W.nsIn K mainGlobals "Node" = some (some (.ref C_Node))) (pg_Node : PySem.W.plainGet K C_Node Str.empty = true) (hd_Node : PySem.W.hasDictIn K C_Node = true) (po_Node : PySem.W.plainOver K C_Node = true) (sa_Node : PySem.W.findIn K (.ref C_Node) "__setattr__" = some (some (.builtin "object.__setattr__"))) (no_kind_Node : PySem.W.findIn K (.ref C_Node) "kind" = some none) (no_fields_Node : PySem.W.findIn K (.ref C_Node) "fields" = some none) (mk_Node : PySem.W.makesIn K C_Node = true) (kc_Node : PySem.W.keepIn K (.ref C_Node) = true) (mr_Node : PySem.W.mroIn K C_Node (.type "object") = some true) (eq_Node : PySem.W.findIn K (.ref C_Node) "__eq__" = some (some (.builtin "object.__eq__"))) (ha_Node : PySem.W.findIn K (.ref C_Node) "__class__" = some (some (.builtin "object.__class__"))) (hn_Node : PySem.W.specialIn K (.builtin "object.__class__") "__get__" = some (some (.builtin "getset_descriptor.__get__"))) (ht_Node : PySem.W.takesIn K (.builtin "object.__class__") = some true) (kb_Node : PySem.W.kitOne K (.ref C_Node) (.type "bool") = some false) (at_Case : PySem.W.nsIn K mainGlobals "Case" = some (some (.ref C_Case))) (pg_Case : PySem.W.plainGet K C_Case Str.empty = true) (hd_Case : PySem.W.hasDictIn K C_Case = true) (po_Case : PySem.W.plainOver K C_Case = true) (sa_Case : PySem.W.findIn K (.ref C_Case) "__setattr__" = some (some (.builtin "object.__setattr__"))) (no_word_Case : PySem.W.findIn K (.ref C_Case) "word" = some none) (no_content_Case : PySem.W.findIn K (.ref C_Case) "content" = some none) (mk_Case : PySem.W.makesIn K C_Case = true) (kc_Case : PySem.W.keepIn K (.ref C_Case) = true) (mr_Case : PySem.W.mroIn K C_Case (.type "object") = some true) (eq_Case : PySem.W.findIn K (.ref C_Case) "__eq__" = some (some (.builtin "object.__eq__"))) (ha_Case : PySem.W.findIn K (.ref C_Case) "__class__" = some (some (.builtin "object.__class__"))) (hn_Case : PySem.W.specialIn K (.builtin "object.__class__") "__get__" = some (some (.builtin "getset_descriptor.__get__"))) (ht_Case : PySem.W.takesIn K (.builtin "object.__class__") = some true) (kb_Case : PySem.W.kitOne K (.ref C_Case) (.type "bool") = some false) (a_Node___init__ : PySem.W.findIn K (.ref C_Node) "__init__" = some (some (.ref f_Node___init__))) (i_Node___init__ : PySem.W.isFn K (.ref f_Node___init__) = true) (l_Node___init__ : K.lookup f_Node___init__ = some ⟨oc_Node___init__, od_Node___init__, .func (PySem.W.fnOf "__init__" "Node.__init__" (defArgs s_Node___init__) (defBody s_Node___init__) (defScope s_Node___init__) (.ref D_Node___init__) kV_Node___init__ dc_Node___init__ pm_Node___init__ an_Node___init__ cd_Node___init__ ct_Node___init__), sl_Node___init__⟩) (q_Node___init__ : PySem.W.codeIn K cd_Node___init__ "Node.__init__" = true) (k_Node___init__ : PySem.W.keepIn K (.ref f_Node___init__) = true) (t_Node___init__ : K.lookup D_Node___init__ = some ⟨oc2_Node___init__, od2_Node___init__, .seq #[.ref C] n2_Node___init__, sl2_Node___init__⟩) (e_nil : K.lookup C = some ⟨.type "tuple", none, .seq #[] n_nil, s_nil⟩) (a_Node_put : PySem.W.findIn K (.ref C_Node) "put" = some (some (.ref f_Node_put))) (i_Node_put : PySem.W.isFn K (.ref f_Node_put) = true) (l_Node_put : K.lookup f_Node_put = some ⟨oc_Node_put, od_Node_put, .func (PySem.W.fnOf "put" "Node.put" (defArgs s_Node_put) (defBody s_Node_put) (defScope s_Node_put) .none kV_Node_put dc_Node_put pm_Node_put an_Node_put cd_Node_put ct_Node_put), sl_Node_put⟩) (q_Node_put : PySem.W.codeIn K cd_Node_put "Node.put" = true) (k_Node_put : PySem.W.keepIn K (.ref f_Node_put) = true) (a_Case___init__ : PySem.W.findIn K (.ref C_Case) "__init__" = some (some (.ref f_Case___init__))) (i_Case___init__ : PySem.W.isFn K (.ref f_Case___init__) = true) (l_Case___init__ : K.lookup f_Case___init__ = some ⟨oc_Case___init__, od_Case___init__, .func (PySem.W.fnOf "__init__" "Case.__init__" (defArgs s_Case___init__) (defBody s_Case___init__) (defScope s_Case___init__) (.ref D_Case___init__) kV_Case___init__ dc_Case___init__ pm_Case___init__ an_Case___init__ cd_Case___init__ ct_Case___init__), sl_Case___init__⟩) (q_Case___init__ : PySem.W.codeIn K cd_Case___init__ "Case.__init__" = true) (k_Case___init__ : PySem.W.keepIn K (.ref f_Case___init__) = true) (t_Case___init__ : K.lookup D_Case___init__ = some ⟨oc2_Case___init__, od2_Case___init__, .seq #[.none] n2_Case___init__, sl2_Case___init__⟩) (a_law_well : PySem.W.nsIn K mainGlobals "_law_well" = some (some (.ref f_law_well))) (l_law_well : K.lookup f_law_well = some ⟨oc_law_well, od_law_well, .func (PySem.W.fnOf "_law_well" "_law_well" (defArgs s_law_well) (defBody s_law_well) (defScope s_law_well) .none kV_law_well dc_law_well pm_law_well an_law_well cd_law_well ct_law_well), sl_law_well⟩) (q_law_well : PySem.W.codeIn K cd_law_well "_law_well" = true) (k_law_well : PySem.W.keepIn K (.ref f_law_well) = true) (a_law_draw : PySem.W.nsIn K mainGlobals "_law_draw" = some (some (.ref f_law_draw))) (l_law_draw : K.lookup f_law_draw = some ⟨oc_law_draw, od_law_draw, .func (PySem.W.fnOf "_law_draw" "_law_draw" (defArgs s_law_draw) (defBody s_law_draw) (defScope s_law_draw) .none kV_law_draw dc_law_draw pm_law_draw an_law_draw cd_law_draw ct_law_draw), sl_law_draw⟩) (q_law_draw : PySem.W.codeIn K cd_law_draw "_law_draw" = true) (k_law_draw : PySem.W.keepIn K (.ref f_law_draw) = true) (a_law_one : PySem.W.nsIn K mainGlobals "_law_one" = some (some (.ref f_law_one))) (l_law_one : K.lookup f_law_one = some ⟨oc_law_one, od_law_one, .func (PySem.W.fnOf "_law_one" "_law_one" (defArgs s_law_one) (defBody s_law_one) (defScope s_law_one) .none kV_law_one dc_law_one pm_law_one an_law_one cd_law_one ct_law_one), sl_law_one⟩) (q_law_one : PySem.W.codeIn K cd_law_one "_law_one" = true) (k_law_one : PySem.W.keepIn K (.ref f_law_one) = true) (a_law_text : PySem.W.nsIn K mainGlobals "_law_text" = some (some (.ref f_law_text))) (l_law_text : K.lookup f_law_text = some ⟨oc_law_text, od_law_text, .func (PySem.W.fnOf "_law_text" "_law_text" (defArgs s_law_text) (defBody s_law_text) (defScope s_law_text) .none kV_law_text dc_law_text pm_law_text an_law_text cd_law_text ct_law_text), sl_law_text⟩) (q_law_text : PySem.W.codeIn K cd_law_text "_law_text" = true) (k_law_text : PySem.W.keepIn K (.ref f_law_text) = true) (a_law_thing : PySem.W.nsIn K mainGlobals "_law_thing" = some (some (.ref f_law_thing))) (l_law_thing : K.lookup f_law_thing = some ⟨oc_law_thing, od_law_thing, .func (PySem.W.fnOf "_law_thing" "_law_thing" (defArgs s_law_thing) (defBody s_law_thing) (defScope s_law_thing) .none kV_law_thing dc_law_thing pm_law_thing an_law_thing cd_law_thing ct_law_thing), sl_law_thing⟩) (q_law_thing : PySem.W.codeIn K cd_law_thing "_law_thing" = true) (k_law_thing : PySem.W.keepIn K (.ref f_law_thing) = true) (a_law_alike : PySem.W.nsIn K mainGlobals "_law_alike" = some (some (.ref f_law_alike))) (l_law_alike : K.lookup f_law_alike = some ⟨oc_law_alike, od_law_alike, .func (PySem.W.fnOf "_law_alike" "_law_alike" (defArgs s_law_alike) (defBody s_law_alike) (defScope s_law_alike) .none kV_law_alike dc_law_alike pm_law_alike an_law_alike cd_law_alike ct_law_alike), sl_law_alike⟩) (q_law_alike : PySem.W.codeIn K cd_law_alike "_law_alike" = true) (k_law_alike : PySem.W.keepIn K (.ref f_law_alike) = true) (a_law_right : PySem.W.nsIn K mainGlobals "_law_right" = some (some (.ref f_law_right))) (l_law_right : K.lookup f_law_right = some ⟨oc_law_right, od_law_right, .func (PySem.W.fnOf "_law_right" "_law_right" (defArgs s_law_right) (defBody s_law_right) (defScope s_law_right) .none kV_law_right dc_law_right pm_law_right an_law_right cd_law_right ct_law_right), sl_law_right⟩) (q_law_right : PySem.W.codeIn K cd_law_right "_law_right" = true) (k_law_right : PySem.W.keepIn K (.ref f_law_right) = true) (a_law_made : PySem.W.nsIn K mainGlobals "_law_made" = some (some (.ref f_law_made))) (l_law_made : K.lookup f_law_made = some ⟨oc_law_made, od_law_made, .func (PySem.W.fnOf "_law_made" "_law_made" (defArgs s_law_made) (defBody s_law_made) (defScope s_law_made) .none kV_law_made dc_law_made pm_law_made an_law_made cd_law_made ct_law_made), sl_law_made⟩) (q_law_made : PySem.W.codeIn K cd_law_made "_law_made" = true) (k_law_made : PySem.W.keepIn K (.ref f_law_made) = true) (a_law_cases_right : PySem.W.nsIn K mainGlobals "_law_cases_right" = some (some (.ref f_law_cases_right))) (l_law_cases_right : K.lookup f_law_cases_right = some ⟨oc_law_cases_right, od_law_cases_right, .func (PySem.W.fnOf "_law_cases_right" "_law_cases_right" (defArgs s_law_cases_right) (defBody s_law_cases_right) (defScope s_law_cases_right) .none kV_law_cases_right dc_law_cases_right pm_law_cases_right an_law_cases_right cd_law_cases_right ct_law_cases_right), sl_law_cases_right⟩) (q_law_cases_right : PySem.W.codeIn K cd_law_cases_right "_law_cases_right" = true) (k_law_cases_right : PySem.W.keepIn K (.ref f_law_cases_right) = true) (a_law : PySem.W.nsIn K mainGlobals "law" = some (some (.ref f_law))) (l_law : K.lookup f_law = some ⟨oc_law, od_law, .func (PySem.W.fnOf "law" "law" (defArgs s_law) (defBody s_law) (defScope s_law) .none kV_law dc_law pm_law an_law cd_law ct_law), sl_law⟩) (q_law : PySem.W.codeIn K cd_law "law" = true) (k_law : PySem.W.keepIn K (.ref f_law) = true) : Txt K mg C :=
  ⟨PySem.W.mg_none_of X G z_bool, PySem.W.mg_none_of X G z_dict, PySem.W.mg_none_of X G z_enumerate, PySem.W.mg_none_of X G z_int, PySem.W.mg_none_of X G z_isinstance, PySem.W.mg_none_of X G z_len, PySem.W.mg_none_of X G z_list, PySem.W.mg_none_of X G z_range, PySem.W.mg_none_of X G z_tuple, PySem.W.mg_none_of X G z_zip, ⟨(by rw [cAt_of at_Node]; exact ⟨⟨pg_Node, hd_Node, po_Node, sa_Node⟩, no_kind_Node, no_fields_Node, ⟨⟨pg_Node, hd_Node, po_Node, sa_Node⟩, ⟨mr_Node, eq_Node⟩, ha_Node, hn_Node, ht_Node⟩, kb_Node⟩), (by rw [cAt_of at_Case]; exact ⟨⟨pg_Case, hd_Case, po_Case, sa_Case⟩, no_word_Case, no_content_Case, ⟨⟨pg_Case, hd_Case, po_Case, sa_Case⟩, ⟨mr_Case, eq_Case⟩, ha_Case, hn_Case, ht_Case⟩, kb_Case⟩), ⟨_, _, e_nil⟩⟩, (by rw [cAt_of at_Node]; exact PySem.W.mg_of X G at_Node), (by rw [cAt_of at_Node]; exact mk_Node), (by rw [cAt_of at_Node]; exact kc_Node), (by rw [cAt_of at_Case]; exact PySem.W.mg_of X G at_Case), (by rw [cAt_of at_Case]; exact mk_Case), (by rw [cAt_of at_Case]; exact kc_Case), (by rw [cAt_of at_Node]; exact ⟨_, _, ⟨a_Node___init__, i_Node___init__, k_Node___init__⟩, ⟨⟨_, _, _, _, _, _, _, _, _, _, rfl, l_Node___init__, q_Node___init__, Or.inr ⟨by simp, _, _, [.ref C], _, rfl, t_Node___init__, rfl, .cons rfl .nil⟩, Or.inl rfl⟩, k_Node___init__⟩⟩), (by rw [cAt_of at_Node]; exact ⟨_, _, ⟨a_Node_put, i_Node_put, k_Node_put⟩, fun_mk l_Node_put q_Node_put k_Node_put⟩), (by rw [cAt_of at_Case]; exact ⟨_, _, ⟨a_Case___init__, i_Case___init__, k_Case___init__⟩, ⟨⟨_, _, _, _, _, _, _, _, _, _, rfl, l_Case___init__, q_Case___init__, Or.inr ⟨by simp, _, _, [.none], _, rfl, t_Case___init__, rfl, .cons rfl .nil⟩, Or.inl rfl⟩, k_Case___init__⟩⟩), ⟨_, _, PySem.W.mg_of X G a_law_well, fun_mk l_law_well q_law_well k_law_well⟩, ⟨_, _, PySem.W.mg_of X G a_law_draw, fun_mk l_law_draw q_law_draw k_law_draw⟩, ⟨_, _, PySem.W.mg_of X G a_law_one, fun_mk l_law_one q_law_one k_law_one⟩, ⟨_, _, PySem.W.mg_of X G a_law_text, fun_mk l_law_text q_law_text k_law_text⟩, ⟨_, _, PySem.W.mg_of X G a_law_thing, fun_mk l_law_thing q_law_thing k_law_thing⟩, ⟨_, _, PySem.W.mg_of X G a_law_alike, fun_mk l_law_alike q_law_alike k_law_alike⟩, ⟨_, _, PySem.W.mg_of X G a_law_right, fun_mk l_law_right q_law_right k_law_right⟩, ⟨_, _, PySem.W.mg_of X G a_law_made, fun_mk l_law_made q_law_made k_law_made⟩, ⟨_, _, PySem.W.mg_of X G a_law_cases_right, fun_mk l_law_cases_right q_law_cases_right k_law_cases_right⟩, ⟨_, _, PySem.W.mg_of X G a_law, fun_mk l_law q_law k_law⟩⟩
theorem all_mk {l : PySem.W.OpenLaw} {w : World} {K : PySem.W.Frag} {mg : Str → Option Value} {fa C : Addr} (T : Txt K mg C) (hfa : mg "law" = some (.ref fa)) :
    ∃ fd : FuncData, (∀ (s : Shared) (v : Value), BindsTo s fd ⟨[v], []⟩ [("_law_script", v)]) ∧ ∀ base : Heap, K.In base → base.Ns mainGlobals mg → FnOk l.prog w K mg base CX0 5 fa fd ["_law_script"] (sp_law K) := by
  exact Cal.end_ T.d_law (fun base => ok_law T) hfa
end K11
open PySem PySem.W PyProof.Rows
set_option maxHeartbeats 0 in
theorem PySem.Challenge.cw_thingwires_k11_nodes_and_cases_holds : PySem.Challenge.rw_thingwires_k11_nodes_and_cases.Holds := by
  w_on; o_law; k_head; (case hw => w_witness2)
  k_fill
  refine L2.walk_ofB (l := PySem.Challenge.rw_thingwires_k11_nodes_and_cases) (n := 63) (k := 5) (x := "_law_script") (CX := fun _ => L2.CX0) (sp := fun w => K11.sp_law _) rfl (by decide) rfl ⟨rfl, by decide, by decide⟩ (fun w h Y => PySem.W.kIn_of Y) ?F (fun _ H a ns hl hb _ hS => K11.law_end _ H a ns hl hb hS) (fun _ _ _ _ _ h => h)
  case F =>
    intro w mg fa h KX G hmg
    refine' K11.all_mk (K11.txt_mk KX G ?z_bool ?z_dict ?z_enumerate ?z_int ?z_isinstance ?z_len ?z_list ?z_range ?z_tuple ?z_zip ?at_Node ?pg_Node ?hd_Node ?po_Node ?sa_Node ?no_kind_Node ?no_fields_Node ?mk_Node ?kc_Node ?mr_Node ?eq_Node ?ha_Node ?hn_Node ?ht_Node ?kit_Node_bool ?at_Case ?pg_Case ?hd_Case ?po_Case ?sa_Case ?no_word_Case ?no_content_Case ?mk_Case ?kc_Case ?mr_Case ?eq_Case ?ha_Case ?hn_Case ?ht_Case ?kit_Case_bool ?a_Node___init__ ?i_Node___init__ ?l_Node___init__ ?q_Node___init__ ?k_Node___init__ ?t_Node___init__ ?e_nil ?a_Node_put ?i_Node_put ?l_Node_put ?q_Node_put ?k_Node_put ?a_Case___init__ ?i_Case___init__ ?l_Case___init__ ?q_Case___init__ ?k_Case___init__ ?t_Case___init__ ?a_law_well ?l_law_well ?q_law_well ?k_law_well ?a_law_draw ?l_law_draw ?q_law_draw ?k_law_draw ?a_law_one ?l_law_one ?q_law_one ?k_law_one ?a_law_text ?l_law_text ?q_law_text ?k_law_text ?a_law_thing ?l_law_thing ?q_law_thing ?k_law_thing ?a_law_alike ?l_law_alike ?q_law_alike ?k_law_alike ?a_law_right ?l_law_right ?q_law_right ?k_law_right ?a_law_made ?l_law_made ?q_law_made ?k_law_made ?a_law_cases_right ?l_law_cases_right ?q_law_cases_right ?k_law_cases_right ?a_law ?l_law ?q_law ?k_law) hmg
    (case z_bool => k_is); (case z_dict => k_is); (case z_enumerate => k_is); (case z_int => k_is); (case z_isinstance => k_is); (case z_len => k_is); (case z_list => k_is); (case z_range => k_is); (case z_tuple => k_is); (case z_zip => k_is); (case at_Node => k_is); (case pg_Node => k_is); (case hd_Node => k_is); (case po_Node => k_is); (case sa_Node => k_is); (case no_kind_Node => k_is); (case no_fields_Node => k_is); (case mk_Node => k_is); (case kc_Node => k_is); (case mr_Node => k_is); (case eq_Node => k_is); (case ha_Node => k_is); (case hn_Node => k_is); (case ht_Node => k_is); (case kit_Node_bool => kit_is); (case at_Case => k_is); (case pg_Case => k_is); (case hd_Case => k_is); (case po_Case => k_is); (case sa_Case => k_is); (case no_word_Case => k_is); (case no_content_Case => k_is); (case mk_Case => k_is); (case kc_Case => k_is); (case mr_Case => k_is); (case eq_Case => k_is); (case ha_Case => k_is); (case hn_Case => k_is); (case ht_Case => k_is); (case kit_Case_bool => kit_is); (case a_Node___init__ => k_is); (case i_Node___init__ => k_is); (case l_Node___init__ => k_is); (case q_Node___init__ => k_is); (case k_Node___init__ => k_is); (case t_Node___init__ => k_is); (case e_nil => k_is); (case a_Node_put => k_is); (case i_Node_put => k_is); (case l_Node_put => k_is); (case q_Node_put => k_is); (case k_Node_put => k_is); (case a_Case___init__ => k_is); (case i_Case___init__ => k_is); (case l_Case___init__ => k_is); (case q_Case___init__ => k_is); (case k_Case___init__ => k_is); (case t_Case___init__ => k_is); (case a_law_well => k_is); (case l_law_well => k_is); (case q_law_well => k_is); (case k_law_well => k_is); (case a_law_draw => k_is); (case l_law_draw => k_is); (case q_law_draw => k_is); (case k_law_draw => k_is); (case a_law_one => k_is); (case l_law_one => k_is); (case q_law_one => k_is); (case k_law_one => k_is); (case a_law_text => k_is); (case l_law_text => k_is); (case q_law_text => k_is); (case k_law_text => k_is); (case a_law_thing => k_is); (case l_law_thing => k_is); (case q_law_thing => k_is); (case k_law_thing => k_is); (case a_law_alike => k_is); (case l_law_alike => k_is); (case q_law_alike => k_is); (case k_law_alike => k_is); (case a_law_right => k_is); (case l_law_right => k_is); (case q_law_right => k_is); (case k_law_right => k_is); (case a_law_made => k_is); (case l_law_made => k_is); (case q_law_made => k_is); (case k_law_made => k_is); (case a_law_cases_right => k_is); (case l_law_cases_right => k_is); (case q_law_cases_right => k_is); (case k_law_cases_right => k_is); (case a_law => k_is); (case l_law => k_is); (case q_law => k_is); (case k_law => k_is)
