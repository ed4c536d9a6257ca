import PyProof.Rows.All
import Wide.All
import OpenK.AllK
import Wide.FinOn
import PyProof.EqAt
import PyProof.EqKinds
import PyProof.P3Eq
import PyProof.TupleCall
import HandS.ForMost
import HandS.Style
import HandS.TupMul
import HandS.Conv
import HandS.EndBits
import HandS.IsInst
import HandS.Walk
import HandS.Wide
import HandS.Flow
import HandS.CallLocal
import HandS.Nested
import HandS.Lambda
import HandS.EndTab
import KE.GoesEnumKw
import KE.GoesNew
import KE.KExcIs
import HandS.ExcInit
import HandS.ExcField
import HandS.ExcOwn
import HandS.ExcIs
import HandS.WordsExc
import PyProof.SeqIndex
import KE.KDictPairs
import HandS.ListItems
import HandS.MakeKw
import HandS.MakeKwOnly
import HandS.More
import HandS.TupAny
import KE.KSortKeySt
import PyProof.CollectIter
import PyProof.WalksMore
import HandS.DeepEq
import PyProof.StrOps2
import HandS.NoneIn
import HandS.Replace
import KE.KNestM
import PySem.Challenge.RW_thingwires_k02_schemas_made
set_option Elab.async false
set_option linter.all false
set_option maxRecDepth 100000
set_option maxHeartbeats 4000000
/-! Kb: joined rules (one rule a construct, whatever the kind of value), what a def of the text promises (Cal), heaps that keep all but some places -/
namespace Kb
open PySem PySem.Spec PyProof.Rows L2

/-! ### joined operators: each reading is opened by its own lemmas alone -/
/-- list + list, of any lists that are read -/
def rCatS (K : PySem.W.Frag) : R2 := fun x y H Q => ∃ l b xs zs, x = .ref l ∧ y = .ref b ∧ SqL K H l xs ∧ SqL K H b zs ∧ xs.length + zs.length ≤ sizeLine ∧ ∀ p, H p = none → Q (.ref p) (upd H p (.lst (xs ++ zs)))
theorem op_catS {X : Cx} : OpR X (binaryOp .Add) (rCatS X.K) := by
  intro pins s σ H x y v u Q I rx ry h
  obtain ⟨l, b, xs, zs, rfl, rfl, hH, hB, hz, q⟩ := h
  cases rx
  cases ry
  obtain ⟨its, r, ⟨⟨cls, dd, data, sl⟩, n, ho, hc, hd, hs⟩, hl⟩ := I.list hH
  obtain ⟨its2, r2, ⟨⟨cls2, dd2, data2, sl2⟩, n2, ho2, hc2, hd2, hs2⟩, hl2⟩ := I.list hB
  simp only at hc hs hc2 hs2
  subst hc hs hc2 hs2
  have e1 := r.length
  have e2 := r2.length
  have ea : its.toArray ++ its2.toArray = (its ++ its2).toArray := by simp
  refine concat_meets ⟨_, ho, rfl⟩ ⟨_, ho2, rfl⟩ noFill_list_add seq_list_add PySem.F.slot_list_add PySem.F.entry_list_add (PySem.F.args_list_add_2 _ _) (list_addW l b its.toArray its2.toArray n n2 dd dd2 sl sl2 (by simp only [List.size_toArray]; omega)) ⟨ho, ho2, ?_⟩
  rw [ea]
  exact ⟨.ref _, _, I.lnew (t' := s.toks) (r.append r2) (by rw [List.length_append]; omega), rfl, q _ I.fresh⟩
@[irreducible] def rAddU (K : PySem.W.Frag) : R2 := fun x y H Q => rI0 (fun i j => .int (i + j)) x y H Q ∨ (∃ i j, x = .str i ∧ y = .str j ∧ i.length + j.length ≤ sizeLine ∧ Q (.str (i ++ j)) H) ∨ rCatS K x y H Q ∨ rCatT K x y H Q
@[irreducible] def rSubU : R2 := rI0 fun i j => .int (i - j)
@[irreducible] def rMulU (K : PySem.W.Frag) : R2 := fun x y H Q => rI CMul (fun i j => .int (i * j)) x y H Q ∨ rRep x y H Q ∨ rRepT K x y H Q
@[irreducible] def rDivU : R2 := rI CDiv fun i j => .int (i / j)
@[irreducible] def rDivW : R2 := rI CDivW fun i j => .int (i / j)
@[irreducible] def rModU : R2 := rI (fun _ j => 0 < j) fun i j => .int (i % j)
@[irreducible] def rPowU : R2 := rI CPow fun i j => .int (i ^ j.toNat)
@[irreducible] def rEqU (K : PySem.W.Frag) : R2 := fun x y H Q => rEq x y H Q ∨ rEqD K x y H Q
@[irreducible] def rNeU (K : PySem.W.Frag) : R2 := fun x y H Q => rNe x y H Q ∨ rNeD K x y H Q
@[irreducible] def rLtU : R2 := fun x y H Q => rI0 (fun i j => .bl (decide (i < j))) x y H Q ∨ ∃ i j, x = .str i ∧ y = .str j ∧ Q (.bl (decide (i.cps.toList < j.cps.toList))) H
@[irreducible] def rLeU : R2 := rI0 fun i j => .bl (decide (i ≤ j))
@[irreducible] def rGtU : R2 := fun x y H Q => rI0 (fun i j => .bl (decide (j < i))) x y H Q ∨ ∃ i j, x = .str i ∧ y = .str j ∧ Q (.bl (decide (j.cps.toList < i.cps.toList))) H
@[irreducible] def rGeU : R2 := rI0 fun i j => .bl (decide (j ≤ i))
@[irreducible] def rIsNU : R2 := fun x y H Q => y = .non ∧ Q (.bl (decide (x = .non))) H
@[irreducible] def rNotNU : R2 := fun x y H Q => y = .non ∧ Q (.bl (!decide (x = .non))) H
@[irreducible] def rInU (K : PySem.W.Frag) : R2 := fun x y H Q => (∃ (c : Nat) (z : Str), x = .str ⟨#[c]⟩ ∧ y = .str z ∧ Q (.bl (decide (c ∈ z.cps.toList))) H) ∨ rIn K false x y H Q
@[irreducible] def rNotInU (K : PySem.W.Frag) : R2 := fun x y H Q => (∃ (c : Nat) (z : Str), x = .str ⟨#[c]⟩ ∧ y = .str z ∧ Q (.bl (!decide (c ∈ z.cps.toList))) H) ∨ rIn K true x y H Q
@[irreducible] def rIxU (K : PySem.W.Frag) : R2 := rIx K
@[irreducible] def rSetU : V → V → V → Hp → (Hp → Prop) → Prop := rSetL
@[irreducible] def rIAddU : R2 := fun x y H Q => rI0 (fun i j => .int (i + j)) x y H Q ∨ (∃ i j, x = .str i ∧ y = .str j ∧ i.length + j.length ≤ sizeLine ∧ Q (.str (i ++ j)) H) ∨ rExt2 x y H Q
@[irreducible] def rISubU : R2 := rI0 fun i j => .int (i - j)
@[irreducible] def rIModU : R2 := rI (fun _ j => 0 < j) fun i j => .int (i % j)
@[irreducible] def rNegU : V → Hp → VK → Prop := rU fun i => .int (-i)
section
variable {X : Cx}
theorem u_add : OpR X (binaryOp .Add) (rAddU X.K) := by unfold rAddU; exact op_add.or (op_add_str.or (op_catS.or op_catT))
theorem u_sub : OpR X (binaryOp .Sub) rSubU := by unfold rSubU; exact op_sub
theorem u_mul : OpR X (binaryOp .Mult) (rMulU X.K) := by unfold rMulU; exact op_mul.or (op_rep.or op_repT)
theorem u_div : OpR X (binaryOp .FloorDiv) rDivU := by unfold rDivU; exact op_fdiv
theorem u_mod : OpR X (binaryOp .Mod) rModU := by unfold rModU; exact op_mod
theorem u_pow : OpR X (binaryOp .Pow) rPowU := by unfold rPowU; exact op_pow
theorem u_eq (hu : X.A.units + 64 < cLine) : OpR X (compareOp .Eq) (rEqU X.K) := by unfold rEqU; exact op_eq.or (op_eqD hu)
theorem u_ne (hu : X.A.units + 64 < cLine) : OpR X (compareOp .NotEq) (rNeU X.K) := by unfold rNeU; exact op_ne.or (op_neD hu)
theorem u_lt : OpR X (compareOp .Lt) rLtU := by unfold rLtU; exact op_lt.or op_lt_str
theorem u_le : OpR X (compareOp .LtE) rLeU := by unfold rLeU; exact op_le
theorem u_gt : OpR X (compareOp .Gt) rGtU := by unfold rGtU; exact op_gt.or op_gt_str
theorem u_ge : OpR X (compareOp .GtE) rGeU := by unfold rGeU; exact op_ge
theorem u_isN : OpR X (compareOp .Is) rIsNU := by unfold rIsNU; exact op_isN
theorem u_notN : OpR X (compareOp .IsNot) rNotNU := by unfold rNotNU; exact op_notN
theorem u_in : OpR X (compareOp .In) (rInU X.K) := by unfold rInU; exact op_in_sign.or op_in_seq
theorem u_notIn : OpR X (compareOp .NotIn) (rNotInU X.K) := by unfold rNotInU; exact op_notIn_sign.or op_notIn_seq
theorem u_ix : IxR X (rIxU X.K) := by unfold rIxU; exact ix_seq
theorem u_set : PSet X rSetU := by unfold rSetU; exact set_list
theorem u_iadd : PIp X .Add rIAddU := by unfold rIAddU; exact iop_add.or (iop_add_str.or iop_ext)
theorem u_isub : PIp X .Sub rISubU := by unfold rISubU; exact iop_sub
theorem u_imod : PIp X .Mod rIModU := by unfold rIModU; exact iop_mod
theorem u_neg : UnR X (unaryOp .USub) rNegU := by unfold rNegU; exact un_neg
end
theorem sz_of' {n : Nat} (h : n ≤ 16777216) : n ≤ sizeLine := Nat.le_trans h (by decide)
theorem szlt_of {n : Nat} (h : n < 16777216) : n < sizeLine := Nat.lt_of_lt_of_le h (by decide)
theorem cmul_l {i j : Int} (a : -18446744073709551616 < i) (b : i < 18446744073709551616) : CMul i j := .inl ⟨a, b⟩
theorem cmul_r {i j : Int} (a : -18446744073709551616 < j) (b : j < 18446744073709551616) : CMul i j := .inr ⟨a, b⟩
section
variable {K : PySem.W.Frag} {H : Hp} {Q : VK} {i j : Int} {x y : V} {a b : Addr} {xs ys : List V}
theorem add_go (q : Q (.int (i + j)) H) : rAddU K (.int i) (.int j) H Q := by unfold rAddU; exact .inl ⟨_, _, rfl, rfl, q⟩
theorem addS_go {u v : Str} (h : u.length + v.length ≤ 16777216) (q : Q (.str (u ++ v)) H) : rAddU K (.str u) (.str v) H Q := by unfold rAddU; exact .inr (.inl ⟨_, _, rfl, rfl, sz_of' h, q⟩)
theorem addLS_go (ha : SqL K H a xs) (hb : SqL K H b ys) (h : xs.length + ys.length ≤ 16777216) (q : ∀ p, H p = none → Q (.ref p) (upd H p (.lst (xs ++ ys)))) : rAddU K (.ref a) (.ref b) H Q := by
  unfold rAddU; exact .inr (.inr (.inl ⟨_, _, _, _, rfl, rfl, ha, hb, sz_of' h, q⟩))
theorem addL_go (ha : H a = some (.lst xs)) (hb : H b = some (.lst ys)) (h : xs.length + ys.length ≤ 16777216) (q : ∀ p, H p = none → Q (.ref p) (upd H p (.lst (xs ++ ys)))) : rAddU K (.ref a) (.ref b) H Q := addLS_go (SqL.of ha) (SqL.of hb) h q
theorem addT_go (ha : SqT K H a xs) (hb : SqT K H b ys) (h0 : xs ≠ []) (h : xs.length + ys.length ≤ 16777216) (q0 : ys = [] → Q (.ref a) H) (q : ys ≠ [] → ∀ p, H p = none → Q (.ref p) (upd H p (.tup (xs ++ ys)))) : rAddU K (.ref a) (.ref b) H Q := by
  unfold rAddU; exact .inr (.inr (.inr ⟨_, _, _, _, rfl, rfl, ha, hb, h0, sz_of' h, q0, q⟩))
theorem sub_go (q : Q (.int (i - j)) H) : rSubU (.int i) (.int j) H Q := by unfold rSubU; exact ⟨_, _, rfl, rfl, q⟩
theorem mul_goL (a : -18446744073709551616 < i) (b : i < 18446744073709551616) (q : Q (.int (i * j)) H) : rMulU K (.int i) (.int j) H Q := by unfold rMulU; exact .inl ⟨_, _, rfl, rfl, cmul_l a b, q⟩
theorem mul_goR (a : -18446744073709551616 < j) (b : j < 18446744073709551616) (q : Q (.int (i * j)) H) : rMulU K (.int i) (.int j) H Q := by unfold rMulU; exact .inl ⟨_, _, rfl, rfl, cmul_r a b, q⟩
theorem rep_go (ha : H a = some (.lst xs)) (h0 : -9223372036854775808 ≤ i) (h1 : i < 9223372036854775808) (h : xs.length * i.toNat ≤ 16777216) (q : ∀ p, H p = none → Q (.ref p) (upd H p (.lst (List.replicate i.toNat xs).flatten))) : rMulU K (.ref a) (.int i) H Q := by
  unfold rMulU; exact .inr (.inl ⟨_, _, _, rfl, rfl, ha, h0, h1, sz_of' h, q⟩)
theorem div_go (a : 0 < j) (b : j < 1073741824) (q : Q (.int (i / j)) H) : rDivU (.int i) (.int j) H Q := by unfold rDivU; exact ⟨_, _, rfl, rfl, ⟨a, b⟩, q⟩
theorem divW_go (h : CDivW i j) (q : Q (.int (i / j)) H) : rDivW (.int i) (.int j) H Q := by unfold rDivW; exact ⟨_, _, rfl, rfl, h, q⟩
theorem mod_go (a : 0 < j) (q : Q (.int (i % j)) H) : rModU (.int i) (.int j) H Q := by unfold rModU; exact ⟨_, _, rfl, rfl, a, q⟩
theorem pow_go (a : 0 ≤ j) (b : j ≤ 1000000) (c : i.natAbs < 2 ^ 64) (q : Q (.int (i ^ j.toNat)) H) : rPowU (.int i) (.int j) H Q := by unfold rPowU; exact ⟨_, _, rfl, rfl, ⟨a, b, c⟩, q⟩
theorem neg_go (q : Q (.int (-i)) H) : rNegU (.int i) H Q := by unfold rNegU; exact ⟨_, rfl, q⟩
theorem dInt : decide (V.int i = V.int j) = decide (i = j) := by simp
theorem dStr {u v : Str} : decide (V.str u = V.str v) = decide (u = v) := by simp
theorem dBl {u v : Bool} : decide (V.bl u = V.bl v) = decide (u = v) := by simp
theorem eq_go (q : Q (.bl (decide (i = j))) H) : rEqU K (.int i) (.int j) H Q := by unfold rEqU; exact .inl ⟨rfl, by rw [dInt]; exact q⟩
theorem eqS_go {u v : Str} (q : Q (.bl (decide (u = v))) H) : rEqU K (.str u) (.str v) H Q := by unfold rEqU; exact .inl ⟨rfl, by rw [dStr]; exact q⟩
theorem eqB_go {u v : Bool} (q : Q (.bl (decide (u = v))) H) : rEqU K (.bl u) (.bl v) H Q := by unfold rEqU; exact .inl ⟨rfl, by rw [dBl]; exact q⟩
theorem eqN_go (q : Q (.bl true) H) : rEqU K .non .non H Q := by unfold rEqU; exact .inl ⟨rfl, q⟩
theorem eqD_go {d e : PyData} (hx : Dp K H x d) (hy : Dp K H y e) (sx : SeqAt.shaped d = true) (sy : SeqAt.shaped e = true) (q : Q (.bl (PyData.eqv d e)) H) : rEqU K x y H Q := by unfold rEqU; exact .inr ⟨d, e, hx, hy, sx, sy, q⟩
theorem ne_go (q : Q (.bl (!decide (i = j))) H) : rNeU K (.int i) (.int j) H Q := by unfold rNeU; exact .inl ⟨rfl, by rw [dInt]; exact q⟩
theorem neS_go {u v : Str} (q : Q (.bl (!decide (u = v))) H) : rNeU K (.str u) (.str v) H Q := by unfold rNeU; exact .inl ⟨rfl, by rw [dStr]; exact q⟩
theorem neB_go {u v : Bool} (q : Q (.bl (!decide (u = v))) H) : rNeU K (.bl u) (.bl v) H Q := by unfold rNeU; exact .inl ⟨rfl, by rw [dBl]; exact q⟩
theorem neD_go {d e : PyData} (hx : Dp K H x d) (hy : Dp K H y e) (sx : SeqAt.shaped d = true) (sy : SeqAt.shaped e = true) (q : Q (.bl (!PyData.eqv d e)) H) : rNeU K x y H Q := by unfold rNeU; exact .inr ⟨d, e, hx, hy, sx, sy, q⟩
theorem lt_go (q : Q (.bl (decide (i < j))) H) : rLtU (.int i) (.int j) H Q := by unfold rLtU; exact .inl ⟨_, _, rfl, rfl, q⟩
theorem ltS_go {u v : Str} (q : Q (.bl (decide (u.cps.toList < v.cps.toList))) H) : rLtU (.str u) (.str v) H Q := by unfold rLtU; exact .inr ⟨_, _, rfl, rfl, q⟩
theorem le_go (q : Q (.bl (decide (i ≤ j))) H) : rLeU (.int i) (.int j) H Q := by unfold rLeU; exact ⟨_, _, rfl, rfl, q⟩
theorem gt_go (q : Q (.bl (decide (j < i))) H) : rGtU (.int i) (.int j) H Q := by unfold rGtU; exact .inl ⟨_, _, rfl, rfl, q⟩
theorem gtS_go {u v : Str} (q : Q (.bl (decide (v.cps.toList < u.cps.toList))) H) : rGtU (.str u) (.str v) H Q := by unfold rGtU; exact .inr ⟨_, _, rfl, rfl, q⟩
theorem ge_go (q : Q (.bl (decide (j ≤ i))) H) : rGeU (.int i) (.int j) H Q := by unfold rGeU; exact ⟨_, _, rfl, rfl, q⟩
theorem isN_go (q : Q (.bl (decide (x = .non))) H) : rIsNU x .non H Q := by unfold rIsNU; exact ⟨rfl, q⟩
theorem notN_go (q : Q (.bl (!decide (x = .non))) H) : rNotNU x .non H Q := by unfold rNotNU; exact ⟨rfl, q⟩
theorem inC_go {c : Nat} {z : Str} (q : Q (.bl (decide (c ∈ z.cps.toList))) H) : rInU K (.str ⟨#[c]⟩) (.str z) H Q := by unfold rInU; exact .inl ⟨_, _, rfl, rfl, q⟩
theorem inL_go (h : SqL K H a xs) (fx : flatV x = true) (fs : xs.all flatV = true) (q : Q (.bl (inV x xs)) H) : rInU K x (.ref a) H Q := by unfold rInU; exact .inr ⟨_, _, rfl, .inl h, fx, fs, q⟩
theorem inT_go (h : SqT K H a xs) (fx : flatV x = true) (fs : xs.all flatV = true) (q : Q (.bl (inV x xs)) H) : rInU K x (.ref a) H Q := by unfold rInU; exact .inr ⟨_, _, rfl, .inr h, fx, fs, q⟩
theorem notInC_go {c : Nat} {z : Str} (q : Q (.bl (!decide (c ∈ z.cps.toList))) H) : rNotInU K (.str ⟨#[c]⟩) (.str z) H Q := by unfold rNotInU; exact .inl ⟨_, _, rfl, rfl, q⟩
theorem notInL_go (h : SqL K H a xs) (fx : flatV x = true) (fs : xs.all flatV = true) (q : Q (.bl (!inV x xs)) H) : rNotInU K x (.ref a) H Q := by unfold rNotInU; exact .inr ⟨_, _, rfl, .inl h, fx, fs, q⟩
theorem ixL_go (h : SqL K H a xs) (e : atI xs i = some x) (q : Q x H) : rIxU K (.ref a) (.int i) H Q := by unfold rIxU; exact .inl ⟨_, _, _, _, rfl, rfl, h, e, q⟩
theorem ixT_go (h : SqT K H a xs) (e : atI xs i = some x) (q : Q x H) : rIxU K (.ref a) (.int i) H Q := by unfold rIxU; exact .inr (.inl ⟨_, _, _, _, rfl, rfl, h, e, q⟩)
theorem ixS_go {z : Str} {c : Nat} (h : z.length ≤ 16777216) (e : atI z.cps.toList i = some c) (q : Q (.str ⟨#[c]⟩) H) : rIxU K (.str z) (.int i) H Q := by unfold rIxU; exact .inr (.inr ⟨_, _, _, rfl, rfl, sz_of' h, e, q⟩)
theorem set_go {k : Nat} {Q : Hp → Prop} (h : H a = some (.lst xs)) (e : ixN xs.length i = some k) (q : Q (upd H a (.lst (xs.set k x)))) : rSetU (.ref a) (.int i) x H Q := by unfold rSetU; exact ⟨_, _, _, _, rfl, rfl, h, e, q⟩
theorem iadd_go (q : Q (.int (i + j)) H) : rIAddU (.int i) (.int j) H Q := by unfold rIAddU; exact .inl ⟨_, _, rfl, rfl, q⟩
theorem iaddS_go {u v : Str} (h : u.length + v.length ≤ 16777216) (q : Q (.str (u ++ v)) H) : rIAddU (.str u) (.str v) H Q := by unfold rIAddU; exact .inr (.inl ⟨_, _, rfl, rfl, sz_of' h, q⟩)
theorem iaddL_go (ha : H a = some (.lst xs)) (hb : H b = some (.lst ys)) (h : xs.length + ys.length ≤ 16777216) (q : Q (.ref a) (upd H a (.lst (xs ++ ys)))) : rIAddU (.ref a) (.ref b) H Q := by
  unfold rIAddU; exact .inr (.inr ⟨_, _, _, _, rfl, rfl, ha, hb, sz_of' h, q⟩)
theorem isub_go (q : Q (.int (i - j)) H) : rISubU (.int i) (.int j) H Q := by unfold rISubU; exact ⟨_, _, rfl, rfl, q⟩
theorem imod_go (a : 0 < j) (q : Q (.int (i % j)) H) : rIModU (.int i) (.int j) H Q := by unfold rIModU; exact ⟨_, _, rfl, rfl, a, q⟩
end

/-! ### names of the module -/
section
variable {X : Cx} {x : Str} {pos : Pos}
theorem pe_gint {i : Int} (hg : Gl X x) (hm : ∃ t, X.mg x = some (.int i t)) (hd : (x == ("__debug__" : Str)) = false := by decide) : PE X (.Name x pos) (tC (.int i)) := by
  obtain ⟨t, hm⟩ := hm
  exact pe_glob hg hm ⟨t, rfl⟩ hd
theorem pe_gstr {i : Str} (hg : Gl X x) (hm : ∃ t, X.mg x = some (.str i t)) (hd : (x == ("__debug__" : Str)) = false := by decide) : PE X (.Name x pos) (tC (.str i)) := by
  obtain ⟨t, hm⟩ := hm
  exact pe_glob hg hm ⟨t, rfl⟩ hd
end

/-! ### defs of the text -/
def Def (K : PySem.W.Frag) (mg : Str → Option Value) (st : Stmt) (x : Str) : Prop := ∃ f fd, mg x = some (.ref f) ∧ Fun K x x st f fd
def FdAt (K : PySem.W.Frag) (f : Addr) (fd : FuncData) : Prop := ∃ oc od osl, K.lookup f = some ⟨oc, od, .func fd, osl⟩
theorem FdAt.eq {K : PySem.W.Frag} {f : Addr} {fd fd' : FuncData} (a : FdAt K f fd) (b : FdAt K f fd') : fd = fd' := by
  obtain ⟨_, _, _, a⟩ := a
  obtain ⟨_, _, _, b⟩ := b
  rw [a] at b
  cases b
  rfl
theorem Fun.at_ {K : PySem.W.Frag} {x qual : Str} {st : Stmt} {f : Addr} {fd : FuncData} (F : Fun K x qual st f fd) : FdAt K f fd := by
  obtain ⟨oc, od, kV, doc, pm, an, cdv, ct, osl, rfl, lk, hcd⟩ := F.ex
  exact ⟨oc, od, osl, lk⟩
/-- the def x of the module keeps the promise sp -/
structure Cal (P : Program) (w : World) (K : PySem.W.Frag) (mg : Str → Option Value) (base : Heap) (CX : CXT) (k : Nat) (x : Str) (ps : List Str) (sp : Sp) : Prop where
  ex : ∃ f fd, mg x = some (.ref f) ∧ FnOk P w K mg base CX k f fd ps sp ∧ PySem.W.keepIn K (.ref f) = true ∧ (∀ us : List Value, us.length = ps.length → bindArgs fd ⟨us, []⟩ = pure (ps.zip us)) ∧ FdAt K f fd
section
variable {P : Program} {w : World} {K : PySem.W.Frag} {mg : Str → Option Value} {base : Heap}
theorem Cal.of {x : Str} {st : Stmt} {N ps : List Str} {k : Nat} {sp : Sp} (D : Def K mg st x) (S : FnScope N ps (defScope st))
    (hb : ∀ (kV doc pm : Value) (an : Option Addr) (cdv ct : Value) (us : List Value), us.length = ps.length → bindArgs (PySem.W.fnOf x x (defArgs st) (defBody st) (defScope st) .none kV doc pm an cdv ct) ⟨us, []⟩ = pure (ps.zip us))
    (len : ∀ vs H Q E, sp vs H Q E → vs.length = ps.length)
    (hbody : ∀ (f : Addr) (cdv : Value) (A : Around) (outer : List Env) (s : Shared) (H : Hp) (vs : List V) (Q : VK) (E : XK), Room k (A.deeper (envOfC x (defScope st) s.heap.objs.size f cdv)) → sp vs H Q E →
      ∃ t, PSs (cxOf CX0 P w K mg base N x (defScope st) f cdv A outer s H E).nox (defBody st) t ∧ t { nx := fun _ H' => Q .non H', rt := Q } (start N vs) H) : Cal P w K mg base CX0 (k + 1) x ps sp := by
  obtain ⟨f, fd, hm, F⟩ := D
  refine ⟨f, fd, hm, F.ok S len (hbody f), F.kp, ?_, Fun.at_ F⟩
  obtain ⟨oc, od, kV, doc, pm, an, cdv, ct, osl, rfl, lk, hcd⟩ := F.ex
  exact hb kV doc pm an cdv ct
theorem Cal.bound {CX : CXT} {k : Nat} {x : Str} {ps : List Str} {sp : Sp} (C : Cal P w K mg base CX k x ps sp) : ∃ f fd, mg x = some (.ref f) ∧ FnOk P w K mg base CX k f fd ps sp ∧ PySem.W.keepIn K (.ref f) = true ∧ Binds K fd ps [] := by
  obtain ⟨f, fd, a, b, c, d, _⟩ := C.ex
  exact ⟨f, fd, a, b, c, .all d⟩
theorem Cal.end_ {x y : Str} {st : Stmt} {k : Nat} {sp : Sp} {fa : Addr} (D : Def K mg st x) (C : ∀ base : Heap, Cal P w K mg base CX0 k x [y] sp) (h : mg x = some (.ref fa)) :
    ∃ fd : FuncData, (∀ (s : Shared) (v : Value), BindsTo s fd ⟨[v], []⟩ [(y, v)]) ∧ ∀ base : Heap, K.In base → base.Ns mainGlobals mg → FnOk P w K mg base CX0 k fa fd [y] sp := by
  obtain ⟨f, fd, hm, F⟩ := D
  have e := h.symm.trans hm
  cases e
  have key : ∀ base : Heap, FnOk P w K mg base CX0 k fa fd [y] sp ∧ ∀ us : List Value, us.length = [y].length → bindArgs fd ⟨us, []⟩ = pure ([y].zip us) := fun base => by
    obtain ⟨f', fd', hm', G, _, hb, hA⟩ := (C base).ex
    have e := hm'.symm.trans hm
    cases e
    have e2 := hA.eq (Fun.at_ F)
    subst e2
    exact ⟨G, hb⟩
  exact ⟨fd, fun s v => .of_eq ((key default).2 [v] rfl), fun base _ _ => (key base).1⟩
end
section
variable {X : Cx} {CX : CXT} {k : Nat} {x : Str} {ps : List Str} {sp : Sp} {E : XK} {e : Expr} {es : List Expr} {t : TA} {p pos : Pos}
theorem pe_callC (C : Cal X.prog X.w X.K X.mg X.base CX k x ps sp) (hr : Room k X.A) (hg : Gl X x) (hx : Passes CX X E)
    (ha : PA X (e :: es) t) (hdb : (x == ("__debug__" : Str)) = false := by decide) (he : starEach (e :: es) X.env = (false, eval e X.env) :: starEach es X.env := by rfl) (hpl : (backTo pos (starEach es X.env)).any (·.1) = false := by rfl) :
    PE X (.Call (.Name x p) (e :: es) [] pos) (tCall sp [] E t) := by
  obtain ⟨f, fd, hm, F, hk, hb⟩ := C.bound
  exact pe_call F hr hg hm hk hb .nil hx ha hdb he hpl
theorem pe_callC0 (C : Cal X.prog X.w X.K X.mg X.base CX k x ps sp) (hr : Room k X.A) (hg : Gl X x) (hx : Passes CX X E)
    (hdb : (x == ("__debug__" : Str)) = false := by decide) : PE X (.Call (.Name x p) [] [] pos) (tCall sp [] E tNil) := by
  obtain ⟨f, fd, hm, F, hk, hb⟩ := C.bound
  exact pe_call0 F hr hg hm hk hb .nil hx hdb
/-- f(k = v): all by names -/
theorem pe_callK0 {f : Addr} {fd : FuncData} {ks : List Str} {g : List Value → List Value → List Value} {gV : List V → List V → List V} {kws : List Keyword} {tk : TA} (F : FnOk X.prog X.w X.K X.mg X.base CX k f fd ps sp) (hr : Room k X.A) (hg : Gl X x) (hm : X.mg x = some (.ref f)) (hk : PySem.W.keepIn X.K (.ref f) = true) (hb : KBinds X.K fd ps ks g gV) (hx : Passes CX X E)
    (hkw : PK X kws tk) (hall : (backToKw pos (keywordEach kws X.env)).all (·.1.isSome) = true := by rfl) (hks : (backToKw pos (keywordEach kws X.env)).filterMap (·.1) = ks := by rfl)
    (hdb : (x == ("__debug__" : Str)) = false := by decide)
    (hpl : ((backTo pos (starEach [] X.env)).any (·.1) || (backToKw pos (keywordEach kws X.env)).any (·.1.isNone)) = false := by rfl) :
    PE X (.Call (.Name x p) [] kws pos) (tCallK sp gV E tNil tk) := by
  refine ⟨fun pins s σ H Q I h => ?_⟩
  refine wpAny_Call_Name_kw (ld_glob I hg hm ?_ hdb)
  refine PySem.W.callWith_KW0 (h₀ := X.base) I.ok.mod.kin hk hall ?_ hpl
  have h : tk σ H fun zs H2 => sp (gV [] zs) H2 Q E := h
  refine thn (hkw.run pos pins s σ H _ I h) fun ws s2 ⟨zs, H2, I2, rz, q2⟩ => ⟨I2.kIn, ?_⟩
  rw [hks]
  exact run_fnk (us := []) (vs := []) F hr hb hx I2 .nil rz q2
end

/-! ### joined calls of built-ins -/
@[irreducible] def rLenU (K : PySem.W.Frag) : List V → Hp → VK → Prop := fun xs H Q => (∃ x n, xs = [x] ∧ LenV K x H n ∧ Q (.int n) H) ∨ ∃ a kvs, xs = [V.ref a] ∧ H a = some (.dK kvs) ∧ Q (.int kvs.length) H
@[irreducible] def rIsiU (K : PySem.W.Frag) : List V → Hp → VK → Prop := fun xs H Q => rIsi K xs H Q ∨ rIsiT K xs H Q
@[irreducible] def rIntU : List V → Hp → VK → Prop := fun xs H Q => (∃ i, xs = [.int i] ∧ Q (.int i) H) ∨ ∃ k, xs = [.bl k] ∧ Q (.int (if k then 1 else 0)) H
@[irreducible] def rBoolU : List V → Hp → VK → Prop := fun xs H Q => (∃ i, xs = [.int i] ∧ Q (.bl (i != 0)) H) ∨ ∃ k, xs = [.bl k] ∧ Q (.bl k) H
@[irreducible] def rAbsU : List V → Hp → VK → Prop := fun xs H Q => ∃ i, xs = [.int i] ∧ Q (.int (if i < 0 then -i else i)) H
@[irreducible] def rOrdU : List V → Hp → VK → Prop := fun xs H Q => ∃ x, xs = [.str x] ∧ x.length = 1 ∧ Q (.int (x.cps.getD 0 0 : Nat)) H
@[irreducible] def rListU (K : PySem.W.Frag) : List V → Hp → VK → Prop := fun xs H Q => ∃ p ys, xs = [.ref p] ∧ (SqL K H p ys ∨ SqT K H p ys) ∧ ∀ l, H l = none → Q (.ref l) (upd H l (.lst ys))
@[irreducible] def rTupleU (K : PySem.W.Frag) : List V → Hp → VK → Prop := fun xs H Q => ∃ p ys, xs = [.ref p] ∧ ((SqL K H p ys ∧ ∀ l, H l = none → Q (.ref l) (upd H l (.tup ys))) ∨ (SqT K H p ys ∧ Q (.ref p) H))
@[irreducible] def rAllU (K : PySem.W.Frag) : List V → Hp → VK → Prop := rAll K
@[irreducible] def rAnyU (K : PySem.W.Frag) : List V → Hp → VK → Prop := rAny K
@[irreducible] def rSumU (K : PySem.W.Frag) : List V → Hp → VK → Prop := rSum K
@[irreducible] def rAppU : V → List V → Hp → VK → Prop := rAppend
@[irreducible] def rPopU : V → List V → Hp → VK → Prop := fun x vs H Q => rPop x vs H Q ∨ rPopAt x vs H Q
@[irreducible] def rExtU : V → List V → Hp → VK → Prop := rExtend
@[irreducible] def rSlLU (K : PySem.W.Frag) : V → Option Int → Option Int → Hp → VK → Prop := rSlL K
@[irreducible] def rSlSU : V → Option Int → Option Int → Hp → VK → Prop := rSlS
@[irreducible] def rSlTU (K : PySem.W.Frag) : V → Option Int → Option Int → Hp → VK → Prop := rSlT K
section
variable {X : Cx}
theorem CallR.or {f : Value} {r r' : List V → Hp → VK → Prop} (h : CallR X f r) (h' : CallR X f r') : CallR X f (fun xs H Q => r xs H Q ∨ r' xs H Q) := by
  intro pins s σ H xs us Q I r q
  rcases q with q | q
  · exact h pins s σ H xs us Q I r q
  · exact h' pins s σ H xs us Q I r q
theorem MtR.or {id : String} {r r' : V → List V → Hp → VK → Prop} (h : MtR X id r) (h' : MtR X id r') : MtR X id (fun x xs H Q => r x xs H Q ∨ r' x xs H Q) := by
  intro pins s σ H x xs v us Q I rx rs q
  rcases q with q | q
  · exact h pins s σ H x xs v us Q I rx rs q
  · exact h' pins s σ H x xs v us Q I rx rs q
theorem u_len : CallR X (.builtin "len") (rLenU X.K) := by unfold rLenU; exact CallR.or call_len call_lenD
theorem u_isi : CallR X (.builtin "isinstance") (rIsiU X.K) := by unfold rIsiU; exact CallR.or call_isi call_isiT
theorem u_int : CallR X (.type "int") rIntU := by unfold rIntU; exact call_int1
theorem u_bool : CallR X (.type "bool") rBoolU := by unfold rBoolU; exact call_bool1
theorem u_abs : CallR X (.builtin "abs") rAbsU := by unfold rAbsU; exact call_abs
theorem u_ord : CallR X (.builtin "ord") rOrdU := by unfold rOrdU; exact call_ord
theorem u_list : CallR X (.type "list") (rListU X.K) := by unfold rListU; exact call_list_of
theorem u_tuple : CallR X (.type "tuple") (rTupleU X.K) := by unfold rTupleU; exact call_tuple_of
theorem u_all (hc : X.calm = true) : CallR X (.builtin "all") (rAllU X.K) := by unfold rAllU; exact cr_all hc
theorem u_any (hc : X.calm = true) : CallR X (.builtin "any") (rAnyU X.K) := by unfold rAnyU; exact cr_any hc
theorem u_sum (hc : X.calm = true) : CallR X (.builtin "sum") (rSumU X.K) := by unfold rSumU; exact cr_sum hc
theorem u_append : MtR X "list.append" rAppU := by unfold rAppU; exact mt_append
theorem u_pop : MtR X "list.pop" rPopU := by unfold rPopU; exact MtR.or mt_pop mt_popAt
theorem u_extend : MtR X "list.extend" rExtU := by unfold rExtU; exact mt_extend
theorem u_slL : SlR X (rSlLU X.K) := by unfold rSlLU; exact sl_list
theorem u_slS : SlR X rSlSU := by unfold rSlSU; exact sl_str
theorem u_slT : SlR X (rSlTU X.K) := by unfold rSlTU; exact sl_tup
end
def tTru (K : PySem.W.Frag) (ta : TE) : TT := fun σ H Q => ta σ H fun x H' => ∃ k, TruV K x H' k ∧ Q k H'
def rJoin (K : PySem.W.Frag) : V → List V → Hp → VK → Prop := fun x xs H Q => ∃ a p, ∃ ys : List Str, x = .str a ∧ xs = [.ref p] ∧ (SqL K H p (ys.map V.str) ∨ SqT K H p (ys.map V.str)) ∧ (ys.map (·.length)).sum + ys.length * a.length ≤ 16777216 ∧ Q (.str (Txt.join a ys)) H
def rUpper : V → List V → Hp → VK → Prop := fun x xs H Q => ∃ a, x = .str a ∧ xs = [] ∧ a.length ≤ 5592405 ∧ Q (.str (Txt.upper a)) H
section
variable {K : PySem.W.Frag} {H : Hp} {Q : VK} {i j : Int} {x y : V} {a b : Addr} {xs ys : List V}
theorem len_str {z : Str} (h : z.length ≤ 16777216) (q : Q (.int z.length) H) : rLenU K [.str z] H Q := by unfold rLenU; exact .inl ⟨_, _, rfl, ⟨sz_of' h, rfl⟩, q⟩
theorem len_lst (h : SqL K H a xs) (q : Q (.int xs.length) H) : rLenU K [.ref a] H Q := by unfold rLenU; exact .inl ⟨_, _, rfl, .inl ⟨xs, h, rfl⟩, q⟩
theorem len_tup (h : SqT K H a xs) (q : Q (.int xs.length) H) : rLenU K [.ref a] H Q := by unfold rLenU; exact .inl ⟨_, _, rfl, .inr ⟨xs, h, rfl⟩, q⟩
theorem len_dK {kvs : List (Key × V)} (h : H a = some (.dK kvs)) (q : Q (.int kvs.length) H) : rLenU K [.ref a] H Q := by unfold rLenU; exact .inr ⟨_, _, rfl, h, q⟩
theorem isi_go {t n : String} {b : Bool} (ty : TyX K H x (.type t)) (k : PySem.W.kitOne K (.type t) (.type n) = some b) (q : Q (.bl b) H) : rIsiU K [x, .ty n] H Q := by unfold rIsiU; exact .inl ⟨x, .ty n, .type t, .type n, b, rfl, .ty n, ty, k, q⟩
theorem isi2_go {t m n : String} {b c : Bool} (hp : H a = some (.tup [.ty m, .ty n])) (ty : TyX K H x (.type t)) (k1 : PySem.W.kitOne K (.type t) (.type m) = some b) (k2 : PySem.W.kitOne K (.type t) (.type n) = some c) (q : Q (.bl (b || c)) H) : rIsiU K [x, .ref a] H Q := by
  unfold rIsiU
  refine .inr ⟨x, a, _, .type t, _, b || c, rfl, hp, .cons (.ty m) (.cons (.ty n) .nil), ty, ?_, q⟩
  refine kitAny_cons k1 (fun e => ?_) (fun e => by rw [e]; rfl)
  refine kitAny_cons k2 (fun e2 => ?_) (fun e2 => by rw [e2]; exact Bool.or_true _)
  rw [e, e2]
  exact kitAny_nil
theorem int_go (q : Q (.int i) H) : rIntU [.int i] H Q := by unfold rIntU; exact .inl ⟨_, rfl, q⟩
theorem intB_go {k : Bool} (q : Q (.int (if k then 1 else 0)) H) : rIntU [.bl k] H Q := by unfold rIntU; exact .inr ⟨_, rfl, q⟩
theorem abs_go (q : Q (.int (if i < 0 then -i else i)) H) : rAbsU [.int i] H Q := by unfold rAbsU; exact ⟨_, rfl, q⟩
theorem ord_go {c : Nat} (q : Q (.int c) H) : rOrdU [.str ⟨#[c]⟩] H Q := by unfold rOrdU; exact ⟨_, rfl, rfl, q⟩
theorem list_goL (h : SqL K H a xs) (q : ∀ l, H l = none → Q (.ref l) (upd H l (.lst xs))) : rListU K [.ref a] H Q := by unfold rListU; exact ⟨_, _, rfl, .inl h, q⟩
theorem list_goT (h : SqT K H a xs) (q : ∀ l, H l = none → Q (.ref l) (upd H l (.lst xs))) : rListU K [.ref a] H Q := by unfold rListU; exact ⟨_, _, rfl, .inr h, q⟩
theorem tuple_goL (h : SqL K H a xs) (q : ∀ l, H l = none → Q (.ref l) (upd H l (.tup xs))) : rTupleU K [.ref a] H Q := by unfold rTupleU; exact ⟨_, _, rfl, .inl ⟨h, q⟩⟩
theorem tuple_goT (h : SqT K H a xs) (q : Q (.ref a) H) : rTupleU K [.ref a] H Q := by unfold rTupleU; exact ⟨_, _, rfl, .inr ⟨h, q⟩⟩
theorem all_go {bs : List Bool} (h : SqL K H a (bs.map V.bl)) (q : Q (.bl (bs.all id)) H) : rAllU K [.ref a] H Q := by unfold rAllU; exact ⟨_, _, rfl, h, q⟩
theorem any_go {bs : List Bool} (h : SqL K H a (bs.map V.bl)) (q : Q (.bl (bs.any id)) H) : rAnyU K [.ref a] H Q := by unfold rAnyU; exact ⟨_, _, rfl, h, q⟩
theorem sum_go {ns : List Int} (h : SqL K H a (ns.map V.int)) (q : Q (.int ns.sum) H) : rSumU K [.ref a] H Q := by unfold rSumU; exact ⟨_, _, rfl, h, q⟩
theorem app_go (h : H a = some (.lst xs)) (hl : xs.length < 16777216) (q : Q .non (upd H a (.lst (xs ++ [x])))) : rAppU (.ref a) [x] H Q := by unfold rAppU; exact ⟨_, _, _, rfl, rfl, h, szlt_of hl, q⟩
theorem ext_go (h : H a = some (.lst xs)) (h2 : H b = some (.lst ys)) (hl : xs.length + ys.length ≤ 16777216) (q : Q .non (upd H a (.lst (xs ++ ys)))) : rExtU (.ref a) [.ref b] H Q := by unfold rExtU; exact ⟨_, _, _, _, rfl, rfl, h, h2, sz_of' hl, q⟩
theorem pop0_go (h : H a = some (.lst (x :: xs))) (q : Q x (upd H a (.lst xs))) : rPopU (.ref a) [.int 0] H Q := by
  unfold rPopU
  exact .inr ⟨_, _, _, 0, x, rfl, rfl, h, by decide, by decide, by
    unfold seqIndex?
    have e : (0 : Int) < ((x :: xs).length : Int) := by
      show (0 : Int) < ((xs.length + 1 : Nat) : Int)
      omega
    simp [e], rfl, q⟩
theorem popE_go (h : H a = some (.lst (xs ++ [x]))) (q : Q x (upd H a (.lst xs))) : rPopU (.ref a) [] H Q := by
  unfold rPopU
  refine .inl ⟨_, _, x, rfl, rfl, h, by simp, ?_⟩
  rw [List.dropLast_concat]
  exact q
theorem ty_lst (h : SqL K H a xs) : tyV K "list" (.ref a) H := .inl ⟨rfl, _, h⟩
theorem ty_dK {kvs : List (Key × V)} (h : H a = some (.dK kvs)) : tyV K "dict" (.ref a) H := .inr (.inr (.inl ⟨rfl, .inl ⟨_, h⟩⟩))
theorem slL_go {lo hi : Option Int} (h : SqL K H a xs) (q : ∀ p, H p = none → Q (.ref p) (upd H p (.lst (cutV xs lo hi)))) : rSlLU K (.ref a) lo hi H Q := by unfold rSlLU; exact ⟨_, _, rfl, h, q⟩
theorem slS_go {lo hi : Option Int} {z : Str} (h : z.length ≤ 16777216) (q : Q (.str (cutS z lo hi)) H) : rSlSU (.str z) lo hi H Q := by unfold rSlSU; exact ⟨_, rfl, sz_of' h, q⟩
end

/-! ### heaps -/
/-- all but the places of M is kept -/
def Kp (M : List Addr) (H H' : Hp) : Prop := ∀ a o, a ∉ M → H a = some o → H' a = some o
theorem Kp.refl {M : List Addr} {H : Hp} : Kp M H H := fun _ _ _ h => h
theorem Kp.trans {M : List Addr} {H H1 H2 : Hp} (a : Kp M H H1) (b : Kp M H1 H2) : Kp M H H2 := fun x o n h => b x o n (a x o n h)
theorem Kp.at_ {M : List Addr} {H H' : Hp} {a : Addr} {o : HO} (k : Kp M H H') (n : a ∉ M) (h : H a = some o) : H' a = some o := k a o n h
theorem Same.at_ {H H' : Hp} {a : Addr} {o : HO} (k : Same H H') (h : H a = some o) : H' a = some o := k a o h
theorem Kp.sqL {M : List Addr} {K : PySem.W.Frag} {H H' : Hp} {a : Addr} {xs : List V} (k : Kp M H H') (n : a ∉ M) (h : SqL K H a xs) : SqL K H' a xs := by
  rcases h with (h | ⟨o, h⟩) | h
  · exact .inl (.inl (k _ _ n h))
  · exact .inl (.inr ⟨o, k _ _ n h⟩)
  · exact .inr h
theorem Kp.upd_in {M : List Addr} {H H' : Hp} {a : Addr} {o : HO} (k : Kp M H H') (h : a ∈ M) : Kp M H (upd H' a o) := fun x u n e => by
  rw [upd_ne (fun z => n (by rw [z]; exact h))]
  exact k x u n e
theorem Kp.upd_new {M : List Addr} {H H' : Hp} {a : Addr} {o : HO} (k : Kp M H H') (h : H a = none) : Kp M H (upd H' a o) := fun x u n e => by
  rw [upd_ne (ne_of_none e h)]
  exact k x u n e
theorem Kp.upd_new' {M : List Addr} {H H' : Hp} {a : Addr} {o : HO} (k : Kp M H H') (h : H' a = none) : Kp M H (upd H' a o) := fun x u n e => by
  rw [upd_ne (ne_of_none (k x u n e) h)]
  exact k x u n e
theorem Kp.mono {M N : List Addr} {H H' : Hp} (k : Kp M H H') (h : ∀ a, a ∈ M → a ∈ N) : Kp N H H' := fun x u n e => k x u (fun z => n (h x z)) e
/-- what is changed was not there at first -/
theorem Kp.drop {M N : List Addr} {H H1 H2 : Hp} (k : Kp M H H1) (k2 : Kp N H1 H2) (h : ∀ a, a ∈ N → a ∈ M ∨ H a = none) : Kp M H H2 := fun x u n e => by
  refine k2 x u (fun z => ?_) (k x u n e)
  rcases h x z with q | q
  · exact n q
  · rw [e] at q
    cases q
theorem Kp.none_of {M : List Addr} {H H' : Hp} {p : Addr} (k : Kp M H H') (n : p ∉ M) (h : H' p = none) : H p = none := by
  cases q : H p with
  | none => rfl
  | some o =>
    rw [k p o n q] at h
    cases h
theorem nm_cons {a b : Addr} {M : List Addr} (h : a ≠ b) (t : a ∉ M) : a ∉ b :: M := fun z => by
  rcases List.mem_cons.mp z with e | e
  · exact h e
  · exact t e
theorem st_nx {D : Ends} {σ : L2.St} {H : Hp} (q : D.nx σ H) : tNext D σ H := q
theorem iteD {c A B : Prop} [Decidable c] (h1 : c → A) (h2 : ¬ c → B) : if decide c = true then A else B := by
  by_cases h : c
  · rw [decide_eq_true h]
    exact iteT (h1 h)
  · rw [decide_eq_false h]
    exact iteF (h2 h)
theorem Kp.of_same {M : List Addr} {H H' : Hp} (a : Same H H') : Kp M H H' := fun x o _ h => a x o h

/-! ### comprehensions: what is made so far is told -/
def Acc (D : Addr) (Pv : Nat → List V → Hp → Prop) (i : Nat) (H : Hp) : Prop := ∃ acc, acc.length ≤ i ∧ H D = some (.lst acc) ∧ Pv i acc H
theorem lc_acc {J : It} {n : Nat} {G : Hp → Prop} {Y : Nat → Hp → V → Hp → Prop} (w : Walk J n G Y) {g : TG} {tt : TT} {te : TE} {vs : List Nat} {σ : L2.St} {H1 : Hp} {D : Addr} {Qd : Hp → Prop} (Pv : Nat → List V → Hp → Prop)
    (h0 : Pv 0 [] (upd H1 D (.lst []))) (hG : ∀ i acc H, i ≤ n → Pv i acc H → G H)
    (hs : ∀ i x acc H H', i < n → acc.length ≤ i → H D = some (.lst acc) → Pv i acc H → Y i H x H' → g x (wipe σ vs) H' fun σ2 H2 => wipe σ2 vs = wipe σ vs ∧ tt σ2 H2 fun b H3 =>
      if b = true then te σ2 H3 fun y H4 => ∃ acc, H4 D = some (.lst acc) ∧ acc.length < sizeLine ∧ Acc D Pv (i + 1) (upd H4 D (.lst (acc ++ [y]))) else Acc D Pv (i + 1) H3)
    (hd : ∀ acc H, acc.length ≤ n → H D = some (.lst acc) → Pv n acc H → Qd H) :
    ∃ W : Nat → Nat → Hp → Prop, (∃ m, W 0 m (upd H1 D (.lst []))) ∧ ∀ i m H, W i m H →
      (J.stop i H ∧ Qd H) ∨ (J.go i H ∧ ∃ Nx : Hp → Prop, (∀ H', Nx H' → ∃ m', m' < m ∧ W (i + 1) m' H') ∧ ∀ x H', J.yld i H x H' → g x (wipe σ vs) H' fun σ2 H2 => wipe σ2 vs = wipe σ vs ∧ tt σ2 H2 fun b H3 =>
        if b = true then te σ2 H3 fun y H4 => ∃ acc, H4 D = some (.lst acc) ∧ acc.length < sizeLine ∧ Nx (upd H4 D (.lst (acc ++ [y]))) else Nx H3) :=
  lc_it w (Acc D Pv) ⟨[], Nat.zero_le _, upd_same, h0⟩ (fun i H hi ⟨acc, _, _, p⟩ => hG i acc H hi p) (fun i x H H' hi ⟨acc, hl, hD, p⟩ y => hs i x acc H H' hi hl hD p y) (fun H ⟨acc, hl, hD, p⟩ => hd acc H hl hD p)
theorem acc_go {D : Addr} {Pv : Nat → List V → Hp → Prop} {i : Nat} {H : Hp} {acc : List V} {y : V} (hl : acc.length ≤ i) (hi : i < 16777215) (hD : H D = some (.lst acc)) (p : Pv (i + 1) (acc ++ [y]) (upd H D (.lst (acc ++ [y])))) :
    ∃ acc, H D = some (.lst acc) ∧ acc.length < sizeLine ∧ Acc D Pv (i + 1) (upd H D (.lst (acc ++ [y]))) := by
  refine ⟨acc, hD, Nat.lt_of_le_of_lt (show acc.length ≤ 16777215 by omega) (by decide), acc ++ [y], ?_, upd_same, p⟩
  rw [List.length_append]
  show acc.length + 1 ≤ i + 1
  omega
theorem acc_skip {D : Addr} {Pv : Nat → List V → Hp → Prop} {i : Nat} {H : Hp} {acc : List V} (hl : acc.length ≤ i) (hD : H D = some (.lst acc)) (p : Pv (i + 1) acc H) : Acc D Pv (i + 1) H := ⟨acc, Nat.le_succ_of_le hl, hD, p⟩
/-! ### isinstance of built-in kinds -/
theorem ki_NoneType_str {K : PySem.W.Frag} : PySem.W.kitOne K (.type "NoneType") (.type "str") = some false := kit_ty (by decide +kernel)
theorem ki_NoneType_int {K : PySem.W.Frag} : PySem.W.kitOne K (.type "NoneType") (.type "int") = some false := kit_ty (by decide +kernel)
theorem ki_NoneType_bool {K : PySem.W.Frag} : PySem.W.kitOne K (.type "NoneType") (.type "bool") = some false := kit_ty (by decide +kernel)
theorem ki_NoneType_list {K : PySem.W.Frag} : PySem.W.kitOne K (.type "NoneType") (.type "list") = some false := kit_ty (by decide +kernel)
theorem ki_NoneType_tuple {K : PySem.W.Frag} : PySem.W.kitOne K (.type "NoneType") (.type "tuple") = some false := kit_ty (by decide +kernel)
theorem ki_NoneType_dict {K : PySem.W.Frag} : PySem.W.kitOne K (.type "NoneType") (.type "dict") = some false := kit_ty (by decide +kernel)
theorem ki_bool_str {K : PySem.W.Frag} : PySem.W.kitOne K (.type "bool") (.type "str") = some false := kit_ty (by decide +kernel)
theorem ki_bool_int {K : PySem.W.Frag} : PySem.W.kitOne K (.type "bool") (.type "int") = some true := kit_ty (by decide +kernel)
theorem ki_bool_bool {K : PySem.W.Frag} : PySem.W.kitOne K (.type "bool") (.type "bool") = some true := kit_ty (by decide +kernel)
theorem ki_bool_list {K : PySem.W.Frag} : PySem.W.kitOne K (.type "bool") (.type "list") = some false := kit_ty (by decide +kernel)
theorem ki_bool_tuple {K : PySem.W.Frag} : PySem.W.kitOne K (.type "bool") (.type "tuple") = some false := kit_ty (by decide +kernel)
theorem ki_bool_dict {K : PySem.W.Frag} : PySem.W.kitOne K (.type "bool") (.type "dict") = some false := kit_ty (by decide +kernel)
theorem ki_int_str {K : PySem.W.Frag} : PySem.W.kitOne K (.type "int") (.type "str") = some false := kit_ty (by decide +kernel)
theorem ki_int_int {K : PySem.W.Frag} : PySem.W.kitOne K (.type "int") (.type "int") = some true := kit_ty (by decide +kernel)
theorem ki_int_bool {K : PySem.W.Frag} : PySem.W.kitOne K (.type "int") (.type "bool") = some false := kit_ty (by decide +kernel)
theorem ki_int_list {K : PySem.W.Frag} : PySem.W.kitOne K (.type "int") (.type "list") = some false := kit_ty (by decide +kernel)
theorem ki_int_tuple {K : PySem.W.Frag} : PySem.W.kitOne K (.type "int") (.type "tuple") = some false := kit_ty (by decide +kernel)
theorem ki_int_dict {K : PySem.W.Frag} : PySem.W.kitOne K (.type "int") (.type "dict") = some false := kit_ty (by decide +kernel)
theorem ki_str_str {K : PySem.W.Frag} : PySem.W.kitOne K (.type "str") (.type "str") = some true := kit_ty (by decide +kernel)
theorem ki_str_int {K : PySem.W.Frag} : PySem.W.kitOne K (.type "str") (.type "int") = some false := kit_ty (by decide +kernel)
theorem ki_str_bool {K : PySem.W.Frag} : PySem.W.kitOne K (.type "str") (.type "bool") = some false := kit_ty (by decide +kernel)
theorem ki_str_list {K : PySem.W.Frag} : PySem.W.kitOne K (.type "str") (.type "list") = some false := kit_ty (by decide +kernel)
theorem ki_str_tuple {K : PySem.W.Frag} : PySem.W.kitOne K (.type "str") (.type "tuple") = some false := kit_ty (by decide +kernel)
theorem ki_str_dict {K : PySem.W.Frag} : PySem.W.kitOne K (.type "str") (.type "dict") = some false := kit_ty (by decide +kernel)
theorem ki_list_str {K : PySem.W.Frag} : PySem.W.kitOne K (.type "list") (.type "str") = some false := kit_ty (by decide +kernel)
theorem ki_list_int {K : PySem.W.Frag} : PySem.W.kitOne K (.type "list") (.type "int") = some false := kit_ty (by decide +kernel)
theorem ki_list_bool {K : PySem.W.Frag} : PySem.W.kitOne K (.type "list") (.type "bool") = some false := kit_ty (by decide +kernel)
theorem ki_list_list {K : PySem.W.Frag} : PySem.W.kitOne K (.type "list") (.type "list") = some true := kit_ty (by decide +kernel)
theorem ki_list_tuple {K : PySem.W.Frag} : PySem.W.kitOne K (.type "list") (.type "tuple") = some false := kit_ty (by decide +kernel)
theorem ki_list_dict {K : PySem.W.Frag} : PySem.W.kitOne K (.type "list") (.type "dict") = some false := kit_ty (by decide +kernel)
theorem ki_tuple_str {K : PySem.W.Frag} : PySem.W.kitOne K (.type "tuple") (.type "str") = some false := kit_ty (by decide +kernel)
theorem ki_tuple_int {K : PySem.W.Frag} : PySem.W.kitOne K (.type "tuple") (.type "int") = some false := kit_ty (by decide +kernel)
theorem ki_tuple_bool {K : PySem.W.Frag} : PySem.W.kitOne K (.type "tuple") (.type "bool") = some false := kit_ty (by decide +kernel)
theorem ki_tuple_list {K : PySem.W.Frag} : PySem.W.kitOne K (.type "tuple") (.type "list") = some false := kit_ty (by decide +kernel)
theorem ki_tuple_tuple {K : PySem.W.Frag} : PySem.W.kitOne K (.type "tuple") (.type "tuple") = some true := kit_ty (by decide +kernel)
theorem ki_tuple_dict {K : PySem.W.Frag} : PySem.W.kitOne K (.type "tuple") (.type "dict") = some false := kit_ty (by decide +kernel)
theorem ki_dict_str {K : PySem.W.Frag} : PySem.W.kitOne K (.type "dict") (.type "str") = some false := kit_ty (by decide +kernel)
theorem ki_dict_int {K : PySem.W.Frag} : PySem.W.kitOne K (.type "dict") (.type "int") = some false := kit_ty (by decide +kernel)
theorem ki_dict_bool {K : PySem.W.Frag} : PySem.W.kitOne K (.type "dict") (.type "bool") = some false := kit_ty (by decide +kernel)
theorem ki_dict_list {K : PySem.W.Frag} : PySem.W.kitOne K (.type "dict") (.type "list") = some false := kit_ty (by decide +kernel)
theorem ki_dict_tuple {K : PySem.W.Frag} : PySem.W.kitOne K (.type "dict") (.type "tuple") = some false := kit_ty (by decide +kernel)
theorem ki_dict_dict {K : PySem.W.Frag} : PySem.W.kitOne K (.type "dict") (.type "dict") = some true := kit_ty (by decide +kernel)
theorem Kp.sqT {M : List Addr} {K : PySem.W.Frag} {H H' : Hp} {a : Addr} {xs : List V} (k : Kp M H H') (n : a ∉ M) (h : SqT K H a xs) : SqT K H' a xs := by
  rcases h with (h | ⟨o, h⟩) | h
  · exact .inl (.inl (k _ _ n h))
  · exact .inl (.inr ⟨o, k _ _ n h⟩)
  · exact .inr h
theorem iteN {c A B : Prop} [Decidable c] (h1 : ¬ c → A) (h2 : c → B) : if (!decide c) = true then A else B := by
  by_cases h : c
  · rw [decide_eq_true h]
    exact iteF (h2 h)
  · rw [decide_eq_false h]
    exact iteT (h1 h)
theorem iteB {b : Bool} {A B : Prop} (h1 : b = true → A) (h2 : b = false → B) : if b = true then A else B := by
  cases b with
  | true => exact iteT (h1 rfl)
  | false => exact iteF (h2 rfl)
theorem tyX_same {K : PySem.W.Frag} {H H' : Hp} {x : V} {t : Value} (s : Same H H') (h : TyX K H x t) : TyX K H' x t := by
  cases h with
  | base b =>
    refine .base ?_
    cases b with
    | non => exact .non
    | bl y => exact .bl y
    | int i => exact .int i
    | str y => exact .str y
    | flt y => exact .flt y
    | lst e => exact .lst (s _ _ e)
    | frz e => exact .frz (s _ _ e)
    | tup e => exact .tup (s _ _ e)
    | dK e => exact .dK (s _ _ e)
    | dT e => exact .dT (s _ _ e)
    | ins e a b c d f => exact .ins (s _ _ e) a b c d f
  | byt b => exact .byt b
  | set e => exact .set (s _ _ e)
  | kList e c => exact .kList e c
  | kTuple e c => exact .kTuple e c
  | kDict e c => exact .kDict e c
  | fTuple e => exact .fTuple (s _ _ e)
  | fDict e => exact .fDict (s _ _ e)
theorem Kp.same {H H' : Hp} (k : Kp [] H H') : Same H H' := fun a o e => k a o List.not_mem_nil e
theorem str_size (z : Str) : z.cps.size = z.length := rfl
end Kb
/-! ### data: what == asks -/
namespace Kb
open PySem PySem.Spec PyProof.Rows L2
/-- small data: no deeper than n, its texts of signs that there are -/
def Sh (n : Nat) (d : PyData) : Prop := d.canLay0 = true ∧ d.depth ≤ n
theorem Sh.ok {n : Nat} {d : PyData} (h : Sh n d) (hn : n ≤ 64) : SeqAt.shaped d = true := by
  unfold SeqAt.shaped
  rw [h.1, Bool.true_and]
  exact decide_eq_true (Nat.le_trans h.2 hn)
theorem sh_non {n : Nat} : Sh n .none := ⟨by simp [PyData.canLay0], by simp [PyData.depth]⟩
theorem sh_bl {n : Nat} {b : Bool} : Sh n (.bool b) := ⟨by simp [PyData.canLay0], by simp [PyData.depth]⟩
theorem sh_int {n : Nat} {i : Int} : Sh n (.int i) := ⟨by simp [PyData.canLay0], by simp [PyData.depth]⟩
theorem sh_str {n : Nat} {x : Str} (h : ∀ c ∈ x.cps.toList, c < 1114112) : Sh n (.str x) := by
  refine ⟨?_, by simp [PyData.depth]⟩
  simp only [PyData.canLay0, PyData.strOk]
  exact Array.all_eq_true'.mpr fun c hc => decide_eq_true (h c (Array.mem_toList_iff.mpr hc))
theorem sh_all {n : Nat} : ∀ {ds : List PyData}, (∀ d ∈ ds, Sh n d) → PyData.canLayAll0 ds = true ∧ PyData.depthAll ds ≤ n
  | [], _ => ⟨by simp [PyData.canLayAll0], by simp [PyData.depthAll]⟩
  | d :: ds, h => by
    obtain ⟨a, b⟩ := h d (by simp)
    obtain ⟨c, e⟩ := sh_all fun x hx => h x (List.mem_cons_of_mem _ hx)
    exact ⟨by simp only [PyData.canLayAll0, a, c, Bool.and_self], by simp only [PyData.depthAll]; omega⟩
theorem sh_lst {n : Nat} {ds : List PyData} (h : ∀ d ∈ ds, Sh n d) : Sh (n + 1) (.list ds) := by
  obtain ⟨a, b⟩ := sh_all h
  exact ⟨by simp only [PyData.canLay0, a], by simp only [PyData.depth]; omega⟩
theorem sh_tup {n : Nat} {ds : List PyData} (h : ∀ d ∈ ds, Sh n d) : Sh (n + 1) (.tuple ds) := by
  obtain ⟨a, b⟩ := sh_all h
  exact ⟨by simp only [PyData.canLay0, a], by simp only [PyData.depth]; omega⟩
theorem sh_nil {n : Nat} : Sh (n + 1) (.list []) := sh_lst fun d h => nomatch h
theorem eqv_lnil : ∀ ds : List PyData, PyData.eqv (.list ds) (.list []) = ds.isEmpty
  | [] => by simp [PyData.eqv, PyData.eqvAll]
  | d :: ds => by simp [PyData.eqv, PyData.eqvAll]
/-- a list of ints as data -/
theorem dp_ints {K : PySem.W.Frag} {H : Hp} : ∀ ns : List Int, DpAll K H (ns.map V.int) (ns.map PyData.int)
  | [] => .nil
  | n :: ns => .cons (.int n) (dp_ints ns)
theorem sh_ints {ns : List Int} : Sh 1 (.list (ns.map PyData.int)) := sh_lst (n := 0) fun d h => by
  obtain ⟨i, _, rfl⟩ := List.mem_map.mp h
  exact sh_int
theorem eqvAll_ints : ∀ xs ys : List Int, PyData.eqvAll (xs.map PyData.int) (ys.map PyData.int) = decide (xs = ys)
  | [], [] => by simp [PyData.eqvAll]
  | [], y :: ys => by simp [PyData.eqvAll]
  | x :: xs, [] => by simp [PyData.eqvAll]
  | x :: xs, y :: ys => by
    have ih := eqvAll_ints xs ys
    simp only [List.map_cons, PyData.eqvAll, PyData.eqv, ih]
    by_cases h : x = y
    · subst h
      simp
    · simp [h]
theorem eqv_ints (xs ys : List Int) : PyData.eqv (.list (xs.map PyData.int)) (.list (ys.map PyData.int)) = decide (xs = ys) := by
  simp only [PyData.eqv]
  exact eqvAll_ints xs ys
end Kb
/-! ### slices -/
namespace Kb
open PySem PySem.Spec PyProof.Rows L2
def cutI {α : Type} (xs : List α) (lo hi : Option Int) : List α := (xs.drop (HT.sIx xs.length 0 lo)).take (HT.sIx xs.length xs.length hi - HT.sIx xs.length 0 lo)
theorem cutV_map {α : Type} (f : α → V) (xs : List α) (lo hi : Option Int) : cutV (xs.map f) lo hi = (cutI xs lo hi).map f := by
  unfold cutV cutI
  rw [List.length_map, List.map_take, List.map_drop]
theorem cutI_len {α : Type} (xs : List α) (lo hi : Option Int) : (cutI xs lo hi).length ≤ xs.length := by
  unfold cutI
  rw [List.length_take, List.length_drop]
  omega
theorem cutI_mem {α : Type} {xs : List α} {lo hi : Option Int} {x : α} (h : x ∈ cutI xs lo hi) : x ∈ xs := List.mem_of_mem_drop (List.mem_of_mem_take h)
end Kb
/-! ### calls by names alone -/
namespace Kb
open PySem PySem.Spec PyProof.Rows L2
theorem pe_callKw {X : Cx} {CX : CXT} {k : Nat} {x : Str} {st : Stmt} {ps ks : List Str} {sp : Sp} {E : XK} {kws : List Keyword} {tk : TA} {p pos : Pos} (D : Def X.K X.mg st x) (C : Cal X.prog X.w X.K X.mg X.base CX k x ps sp)
    (kb : ∀ (kV doc pm : Value) (an : Option Addr) (cdv ct : Value) (us ws : List Value), (us ++ (ws ++ [])).length = ps.length → bindArgs (PySem.W.fnOf x x (defArgs st) (defBody st) (defScope st) .none kV doc pm an cdv ct) ⟨us, ks.zip ws⟩ = pure (ps.zip (us ++ (ws ++ []))))
    (hr : Room k X.A) (hg : Gl X x) (hx : Passes CX X E) (hkw : PK X kws tk) (hall : (backToKw pos (keywordEach kws X.env)).all (·.1.isSome) = true := by rfl) (hks : (backToKw pos (keywordEach kws X.env)).filterMap (·.1) = ks := by rfl)
    (hdb : (x == ("__debug__" : Str)) = false := by decide)
    (hpl : ((backTo pos (starEach [] X.env)).any (·.1) || (backToKw pos (keywordEach kws X.env)).any (·.1.isNone)) = false := by rfl) :
    PE X (.Call (.Name x p) [] kws pos) (tCall sp [] E tk) := by
  obtain ⟨f, fd, hm, F, hk, _, hA⟩ := C.ex
  obtain ⟨f', fd', hm', F'⟩ := D
  have e := hm'.symm.trans hm
  cases e
  have e2 := hA.eq (Fun.at_ F')
  subst e2
  have K1 : KBinds X.K fd ps ks (fun us ws => us ++ (ws ++ [])) (fun vs zs => vs ++ (zs ++ [])) := by
    obtain ⟨oc, od, kV, doc, pm, an, cdv, ct, osl, rfl, lk, hcd⟩ := F'.ex
    exact ⟨fun s us ws _ hl => .of_eq (kb kV doc pm an cdv ct us ws hl), fun r r' => r.append (r'.append .nil)⟩
  exact pe_callK0 F hr hg hm hk K1 hx hkw hall hks hdb hpl
end Kb
/-! ### enumerate(v, start=k): v a list or a tuple that stands still -/
namespace Kb
open PySem PySem.Spec PyProof.Rows L2
/-- a thing at a that is walked by an iterator of its own: St H xs tells that it holds xs, Ar h its that the machine's object does, At h it i that the iterator stands at i -/
structure Src (K : PySem.W.Frag) (a : Addr) (S : Hp → List V → Prop) (Ar : Heap → Array Value → Prop) (At : Heap → Addr → Nat → Prop) (ob : Obj) : Prop where
  get : ∀ {X : Cx} {pins : List (Addr × Obj)} {σ : L2.St} {H : Hp} {s : Shared} {xs : List V}, X.K = K → Inv X pins σ H s → S H xs → ∃ its : List Value, Vals xs its ∧ Ar s.heap its.toArray
  inj : ∀ {X : Cx} {pins : List (Addr × Obj)} {σ : L2.St} {H : Hp} {s : Shared} {xs ys : List V}, X.K = K → Inv X pins σ H s → S H xs → S H ys → xs = ys
  lives : ∀ {h : Heap} {its : Array Value}, Ar h its → ∃ o, h.get? a = some o
  iobj : ∀ {h : Heap} {it : Addr} {i : Nat}, At h it i → ∃ o, h.get? it = some o ∧ ∀ v, o.data ≠ .cell v
  ikeep : ∀ {h h' : Heap} {it : Addr} {i : Nat}, At h it i → (∀ o, h.get? it = some o → h'.get? it = some o) → At h' it i
  draw : ∀ (prog : Program) (w : World) (A : Around) (it : Addr) (its : Array Value), A.handled = none → a ≠ it → Draws prog w A it [it, a] its.size (fun i v => its[i]? = some v) (fun i h => At h it i ∧ Ar h its)
  begin : ∀ its, Begins (.ref a) ob fun h => Ar h its
  first : ∀ {h : Heap} {it : Addr}, h.get? it = some ob → At h it 0
theorem src_list (K : PySem.W.Frag) (a : Addr) : Src K a (fun H xs => SqL K H a xs) (fun h its => h.IsList a its) (fun h it i => h.IsListIter it a i) { cls := .type "list_iterator", data := .fields #[.ref a, .int 0 0] } where
  get := fun hK I h => by
    subst hK
    obtain ⟨its, r, p, _⟩ := I.list h
    exact ⟨its, r, p.isList⟩
  inj := fun hK I h h' => by
    subst hK
    exact I.list_inj h h'
  lives := fun ⟨o, e, _⟩ => ⟨o, e⟩
  iobj := fun ⟨o, e, _, d⟩ => ⟨o, e, fun v z => by rw [d] at z; cases z⟩
  ikeep := fun st k => st.at k
  draw := fun prog w A it its hh ne => Draws.list hh it a ne its
  begin := fun its => begins_list a its
  first := fun e => ⟨_, e, rfl, rfl⟩
theorem src_tup (K : PySem.W.Frag) (a : Addr) : Src K a (fun H xs => SqT K H a xs) (fun h its => h.IsTuple a its) (fun h it i => h.IsTupleIter it a i) { cls := .type "tuple_iterator", data := .fields #[.ref a, .int 0 0] } where
  get := fun hK I h => by
    subst hK
    obtain ⟨its, r, p, _⟩ := I.tuple h
    exact ⟨its, r, p⟩
  inj := fun hK I h h' => by
    subst hK
    exact I.tuple_inj h h'
  lives := fun ⟨o, e, _⟩ => ⟨o, e⟩
  iobj := fun ⟨o, e, _, d⟩ => ⟨o, e, fun v z => by rw [d] at z; cases z⟩
  ikeep := fun st k => st.at k
  draw := fun prog w A it its hh ne => Draws.tuple hh it a ne its
  begin := fun its => begins_tuple a its
  first := fun e => ⟨_, e, rfl, rfl⟩
def ItS (S : Hp → List V → Prop) (k : Int) : It :=
  ⟨fun i H => ∃ xs x, S H xs ∧ xs[i]? = some x, fun i H v H' => ∃ T x, v = .ref T ∧ H T = none ∧ H' = upd H T (.tup [.int (k + (i : Nat)), x]) ∧ ∀ xs, S H xs → xs[i]? = some x, fun i H => ∃ xs : List V, S H xs ∧ xs.length = i⟩
section
variable {K : PySem.W.Frag} {a : Addr} {S : Hp → List V → Prop} {Ar : Heap → Array Value → Prop} {At : Heap → Addr → Nat → Prop} {ob : Obj}
theorem turn_enumS (sr : Src K a S Ar At ob) {P : Program} {w : World} {elts : List Expr} {kk : Nat} {tpos : Pos} (k : Int) (e it : Addr) (hai : a ≠ it) (hei : e ≠ it) (hea : e ≠ a) :
    Turn P w K (.Tuple elts kk tpos) (ItS S k) [e, it] e (fun i h => (∃ old, IsEnum h e it (k + (i : Nat)) old) ∧ At h it i) where
  mem := List.mem_cons_self
  obj := fun i h ⟨⟨old, he⟩, hi⟩ b hb => by
    rcases List.mem_cons.mp hb with z | z
    · subst z
      exact ⟨_, he, fun v q => nomatch q⟩
    · rw [List.mem_singleton.mp z]
      exact sr.iobj hi
  keep := fun i h h' ⟨⟨old, he⟩, hi⟩ kp => ⟨⟨old, kp e List.mem_cons_self _ he⟩, sr.ikeep hi fun o q => kp it (List.mem_cons_of_mem _ (List.mem_singleton.mpr rfl)) o q⟩
  item := fun X hP hw hK hc i pins s σ H E I hf st hg => by
    subst hP hw
    obtain ⟨xs, x, hS, hx⟩ := hg
    obtain ⟨its, rv, hA⟩ := sr.get hK I hS
    have hlen := rv.length
    have hil : i < its.toArray.size := by
      have := (List.getElem?_eq_some_iff.mp hx).1
      simp only [List.size_toArray]
      omega
    have D := sr.draw X.prog X.w X.A.in1 it its.toArray (I.ok.hd hc) hai
    have hef : e ∉ [it, a] := fun z => by
      rcases List.mem_cons.mp z with q | q
      · exact hei q
      · exact hea (List.mem_singleton.mp q)
    refine (GoesN.enumFrom (elts := elts) (x1 := kk) (pos := tpos) k D e hei hef List.mem_cons_self).goes i s _ E hil ⟨st.1, st.2, hA⟩ fun v h' tk hY st' hk _ => ?_
    obtain ⟨T, t, u, rfl, hT, hu, hTup⟩ := hY
    have hx2 : its[i]? = some u := by simpa using hu
    obtain ⟨u', hu', ru⟩ := rv.get hx
    rw [hx2] at hu'
    cases hu'
    have hk' : ∀ b o, b ∉ [e, it] → s.heap.get? b = some o → h'.get? b = some o := hk
    have new : ObjOk X.prog X.w (upd H T (.tup [.int (k + (i : Nat)), x])) h' T (.tup [.int (k + (i : Nat)), x]) := ⟨by show 2 ≤ sizeLine; decide, _, .cons ⟨_, rfl⟩ (.cons ru .nil), hTup⟩
    refine ⟨.ref T, _, I.turnedNew (t' := tk) hk' hf hT new, rfl, ⟨T, x, rfl, I.hok.fresh hT, rfl, fun ys hy => by rw [sr.inj hK I hy hS]; exact hx⟩, ⟨st'.1, st'.2.1⟩, fun b hb => ?_⟩
    obtain ⟨o, hbo⟩ : ∃ o, s.heap.get? b = some o := by
      rcases List.mem_cons.mp hb with z | z
      · rw [z]
        obtain ⟨old, q⟩ := st.1
        exact ⟨_, q⟩
      · rw [List.mem_singleton.mp z]
        obtain ⟨o, q, _⟩ := sr.iobj st.2
        exact ⟨o, q⟩
    rw [upd_ne (Nat.ne_of_lt (Nat.lt_of_lt_of_le (Heap.lt_size hbo) hT))]
    exact (hf b hb).1
  done := fun X hP hw hK hc i pins s σ H E I hf st hg => by
    subst hP hw
    obtain ⟨xs, hS, hx⟩ := hg
    obtain ⟨its, rv, hA⟩ := sr.get hK I hS
    have hlen := rv.length
    have D := sr.draw X.prog X.w X.A.in1 it its.toArray (I.ok.hd hc) hai
    have ei : i = its.toArray.size := by
      simp only [List.size_toArray]
      omega
    subst ei
    obtain ⟨f0, f1, f2, f3, f4, f5⟩ := hf it (List.mem_cons_of_mem _ (List.mem_singleton.mpr rfl))
    obtain ⟨old, he⟩ := st.1
    exact wpAny_pyNext_enum_endD D he ⟨st.2, hA⟩ fun h' eb => ⟨rfl, I.turned (t' := s.toks) (fun b o hb q => eb b o hb q) f0 f1 f3 f4 f5⟩
  self := fun A i s Q E st h => let ⟨⟨_, he⟩, _⟩ := st; wpAny_pyIter_enum he h
end
/-- enumerate(v, start=k) -/
@[irreducible] def iEnumS (K : PySem.W.Frag) (ta : TA) (tk : TE) : TI := fun σ H R => ta σ H fun vs H1 => tk σ H1 fun z H2 => ∃ a k, vs = [.ref a] ∧ z = .int k ∧ (-9223372036854775808 ≤ k ∧ k < 9223372036854775808) ∧
  ((∃ xs, SqL K H2 a xs ∧ R (ItS (fun H xs => SqL K H a xs) k) H2) ∨ ∃ xs, SqT K H2 a xs ∧ R (ItS (fun H xs => SqT K H a xs) k) H2)
section
variable {X : Cx} {e ke : Expr} {ta : TA} {tk : TE} {p pos kpos tpos : Pos} {elts : List Expr} {kk : Nat}
theorem enumS_go {K : PySem.W.Frag} {a : Addr} {S : Hp → List V → Prop} {Ar : Heap → Array Value → Prop} {At : Heap → Addr → Nat → Prop} {ob : Obj} (hK : X.K = K) (sr : Src K a S Ar At ob) {pins : List (Addr × Obj)} {s : Shared} {σ : L2.St} {H : Hp} {R : It → Hp → Prop} {xs : List V} {k : Int} {t : Tok}
    (I : Inv X pins σ H s) (hS : S H xs) (h0 : -9223372036854775808 ≤ k) (h1 : k < 9223372036854775808) (q : R (ItS S k) H) :
    wpAny (model X.prog X.w) X.A (PySem.call (.type "enumerate") [.ref a] [(Str.ofString "start", .int k t)]) (fun v s1 => wpAny (model X.prog X.w) X.A (pyIter v) (PIE X pins σ (.Tuple elts kk tpos) R) X.xe s1) X.xe s := by
  obtain ⟨its, rv, hA⟩ := sr.get hK I hS
  subst hK
  refine enum_begins_start (sr.begin its.toArray) hA (by omega) (by omega) fun h' he hit hsz hk => wpAny_pyIter_enum he ?_
  have I2 : Inv X pins σ H { s with heap := h' } := I.kept (t' := s.toks) hk
  obtain ⟨o, ho⟩ := sr.lives hA
  have hlt := Heap.lt_size ho
  refine ⟨s.heap.objs.size + 1, [s.heap.objs.size + 1, s.heap.objs.size], _, _, H, rfl, I2, turn_enumS sr k (s.heap.objs.size + 1) s.heap.objs.size (Nat.ne_of_lt hlt) (Nat.succ_ne_self _) (Nat.ne_of_gt (Nat.lt_succ_of_lt hlt)), ⟨⟨.none, ?_⟩, sr.first hit⟩, fun b hb => ?_, q⟩
  · have e0 : k + ((0 : Nat) : Int) = k := by omega
    rw [e0]
    exact he
  · have hle : s.heap.objs.size ≤ b := by
      rcases List.mem_cons.mp hb with z | z
      · rw [z]
        exact Nat.le_succ _
      · rw [List.mem_singleton.mp z]
        exact Nat.le_refl _
    exact I.fpOk hle (I.hok.fresh hle)
/-- a built-in class called with names -/
theorem callTy_kw {M : Model} {A : Around} {E : Value → Shared → Prop} {s : Shared} {env : Env} {T : String} {kws : List Keyword} {Q : Value → Shared → Prop}
    (h : wpAny M A (spliced (backTo pos (starEach [e] env))) (fun vs s1 => wpAny M A (evalAll ((backToKw pos (keywordEach kws env)).map (·.2)))
      (fun ks s2 => wpAny M A (PySem.call (.type T) vs (((backToKw pos (keywordEach kws env)).filterMap (·.1)).zip ks)) Q E s2) E s1) E s)
    (he : backTo pos (starEach [e] env) = (false, eval e env) :: backTo pos (starEach [] env)) (hp : ((backTo pos (starEach [e] env)).any (·.1) || (backToKw pos (keywordEach kws env)).any (·.1.isNone)) = false)
    (ha : (backToKw pos (keywordEach kws env)).all (·.1.isSome) = true) :
    wpAny M A (callWith pos (.type T) [] (backTo pos (starEach [e] env)) (backToKw pos (keywordEach kws env))) Q E s := by
  refine PySem.W.callWith_of (P := fun _ => True) hp (fun _ _ => ⟨.machine, .inr (.inl rfl), .now⟩) ?_
  rw [he] at h ⊢
  exact evalArgs_kwB ha (thn h fun vs s1 h1 => thn h1 fun ks s2 h2 => ⟨trivial, h2⟩)
theorem pi_enumS (hg : Gl X "enumerate") (hm : X.mg "enumerate" = none) (ha : PA X [e] ta) (hk : PE X ke tk)
    (he : backTo pos (starEach [e] X.env) = (false, eval e X.env) :: backTo pos (starEach [] X.env) := by rfl)
    (hp : ((backTo pos (starEach [e] X.env)).any (·.1) || (backToKw pos (keywordEach [⟨some "start", ke, kpos⟩] X.env)).any (·.1.isNone)) = false := by rfl)
    (hall : (backToKw pos (keywordEach [⟨some "start", ke, kpos⟩] X.env)).all (·.1.isSome) = true := by rfl) (hks : (backToKw pos (keywordEach [⟨some "start", ke, kpos⟩] X.env)).filterMap (·.1) = [Str.ofString "start"] := by rfl) :
    PI X (.Tuple elts kk tpos) (.Call (.Name "enumerate" p) [e] [⟨some "start", ke, kpos⟩] pos) (iEnumS X.K ta tk) := by
  unfold iEnumS
  refine ⟨fun pins s σ H R I h => ?_⟩
  refine wpAny_Call_Name_kw (ld_blt I hg hm boot_enumerate ?_ (by decide) (by decide))
  have hkw : PK X [⟨some "start", ke, kpos⟩] (tCons tk tNil) := pk_cons hk pk_nil
  refine callTy_kw (thn (ha.run pos pins s σ H _ I h) fun us s1 hh => ?_) he hp hall
  obtain ⟨vs, H1, I1, r1, q1⟩ := hh
  refine thn (hkw.run pos pins s1 σ H1 (fun zs H2 => match zs with
    | [z] => ∃ a k, vs = [.ref a] ∧ z = .int k ∧ (-9223372036854775808 ≤ k ∧ k < 9223372036854775808) ∧
      ((∃ xs, SqL X.K H2 a xs ∧ R (ItS (fun H xs => SqL X.K H a xs) k) H2) ∨ ∃ xs, SqT X.K H2 a xs ∧ R (ItS (fun H xs => SqT X.K H a xs) k) H2)
    | _ => False) I1 q1) fun ws s2 hh => ?_
  obtain ⟨zs, H2, I2, r2, q2⟩ := hh
  obtain ⟨z, rfl⟩ : ∃ z, zs = [z] := by
    match zs, q2 with
    | [z], _ => exact ⟨z, rfl⟩
  obtain ⟨a, k, rfl, rfl, ⟨h0, h1⟩, q2⟩ := q2
  rw [hks]
  obtain ⟨u, rfl, ru⟩ := vals1 r1
  obtain ⟨v, rfl, rv⟩ := vals1 r2
  cases ru
  obtain ⟨t, rfl⟩ := rv
  rcases q2 with ⟨xs, hS, q⟩ | ⟨xs, hS, q⟩
  · exact enumS_go rfl (src_list X.K a) I2 hS h0 h1 q
  · exact enumS_go rfl (src_tup X.K a) I2 hS h0 h1 q
end
theorem walk_enumS {S : Hp → List V → Prop} {k : Int} {xs : List V} : Walk (ItS S k) xs.length (fun H => S H xs) (fun i H v H' => ∃ T x, v = .ref T ∧ H T = none ∧ H' = upd H T (.tup [.int (k + (i : Nat)), x]) ∧ xs[i]? = some x) :=
  ⟨fun i _ hi q => ⟨xs, xs[i], q, by simp [hi]⟩, fun _ q => ⟨xs, q, rfl⟩, fun _ _ _ _ _ q ⟨T, x, a, b, c, d⟩ => ⟨T, x, a, b, c, d xs q⟩⟩
/-! ### a list or a tuple walked -/
def SqS (K : PySem.W.Frag) (H : Hp) (a : Addr) (xs : List V) : Prop := SqL K H a xs ∨ SqT K H a xs
@[irreducible] def iSeq (K : PySem.W.Frag) (te : TE) : TI := fun σ H R => te σ H fun x H1 => ∃ a, x = .ref a ∧ ((∃ xs, SqL K H1 a xs ∧ R (Itl K a) H1) ∨ ∃ xs, SqT K H1 a xs ∧ R (Itt K a) H1)
theorem pi_seq {X : Cx} {tg e : Expr} {te : TE} (he : PE X e te) : PI X tg e (iSeq X.K te) := by
  unfold iSeq
  refine ⟨fun pins s σ H R I h => ?_⟩
  refine thn (he.run pins s σ H _ I h) fun v s1 hh => ?_
  obtain ⟨x, H1, I1, r1, a, e, q⟩ := hh
  subst e
  cases r1
  rcases q with ⟨xs, hq, q⟩ | ⟨xs, hq, q⟩
  · obtain ⟨its, rv, p, hz⟩ := I1.list hq
    refine wpAny_pyIter_list p.isList ⟨s1.heap.objs.size, [s1.heap.objs.size], _, _, H1, rfl, ?_, turn_list a _, ⟨_, Heap.get?_push_size _ rfl, rfl, rfl⟩, fun b hb => ?_, q⟩
    · exact I1.kept (t' := s1.toks) fun b o e => Heap.get?_push_of_some _ e
    · rw [List.mem_singleton.mp hb]
      exact I1.fpOk (Nat.le_refl _) (I1.hok.fresh (Nat.le_refl _))
  · obtain ⟨its, rv, p, hz⟩ := I1.tuple hq
    refine wpAny_pyIter_tuple (show s1.heap.IsTuple a its.toArray from p) ⟨s1.heap.objs.size, [s1.heap.objs.size], _, _, H1, rfl, ?_, turn_tuple a _, ⟨_, Heap.get?_push_size _ rfl, rfl, rfl⟩, fun b hb => ?_, q⟩
    · exact I1.kept (t' := s1.toks) fun b o e => Heap.get?_push_of_some _ e
    · rw [List.mem_singleton.mp hb]
      exact I1.fpOk (Nat.le_refl _) (I1.hok.fresh (Nat.le_refl _))
end Kb
/-! ### == of lists of ints -/
namespace Kb
open PySem PySem.Spec PyProof.Rows L2
section
variable {K : PySem.W.Frag} {H : Hp} {Q : VK} {a b : Addr} {xs ys : List Int}
theorem eqI_go (hx : SqL K H a (xs.map V.int)) (hy : SqL K H b (ys.map V.int)) (q : Q (.bl (decide (xs = ys))) H) : rEqU K (.ref a) (.ref b) H Q :=
  eqD_go (.lst hx (dp_ints xs)) (.lst hy (dp_ints ys)) (sh_ints.ok (by decide)) (sh_ints.ok (by decide)) (by rw [eqv_ints]; exact q)
theorem neI_go (hx : SqL K H a (xs.map V.int)) (hy : SqL K H b (ys.map V.int)) (q : Q (.bl (!decide (xs = ys))) H) : rNeU K (.ref a) (.ref b) H Q :=
  neD_go (.lst hx (dp_ints xs)) (.lst hy (dp_ints ys)) (sh_ints.ok (by decide)) (sh_ints.ok (by decide)) (by rw [eqv_ints]; exact q)
theorem eqI0_go (hx : SqL K H a (xs.map V.int)) (hy : SqL K H b []) (q : Q (.bl (decide (xs = []))) H) : rEqU K (.ref a) (.ref b) H Q := eqI_go (ys := []) hx hy q
theorem neI0_go (hx : SqL K H a (xs.map V.int)) (hy : SqL K H b []) (q : Q (.bl (!decide (xs = []))) H) : rNeU K (.ref a) (.ref b) H Q := neI_go (ys := []) hx hy q
end
theorem none_of {H H' : Hp} {p : Addr} (k : Kp [] H H') (h : H' p = none) : H p = none := k.none_of List.not_mem_nil h
theorem Kp.new {H H' : Hp} {p : Addr} {o : HO} (k : Kp [] H H') (h : H' p = none) : Kp [] H (upd H' p o) := Kp.upd_new' k h
end Kb
/-! ### a list or a tuple, whichever -/
namespace Kb
open PySem PySem.Spec PyProof.Rows L2
def Inn (H : Hp) (a : Addr) (xs : List V) : Prop := H a = some (.lst xs) ∨ H a = some (.tup xs)
theorem Inn.kp {H H' : Hp} {a : Addr} {xs : List V} (h : Inn H a xs) (k : Kp [] H H') : Inn H' a xs :=
  h.elim (fun e => .inl (k.at_ List.not_mem_nil e)) fun e => .inr (k.at_ List.not_mem_nil e)
theorem Inn.kpX {L : List Addr} {H H' : Hp} {a : Addr} {xs : List V} (h : Inn H a xs) (k : Kp L H H') (n : a ∉ L) : Inn H' a xs :=
  h.elim (fun e => .inl (k.at_ n e)) fun e => .inr (k.at_ n e)
section
variable {K : PySem.W.Frag} {H : Hp} {Q : VK} {a : Addr} {xs : List V}
theorem list_goI (h : Inn H a xs) (q : ∀ p, H p = none → Q (.ref p) (upd H p (.lst xs))) : rListU K [.ref a] H Q :=
  h.elim (fun e => list_goL (SqL.of e) q) fun e => list_goT (SqT.of e) q
theorem tuple_goI (h : Inn H a xs) (q1 : H a = some (.lst xs) → rTupleU K [.ref a] H Q) (q2 : H a = some (.tup xs) → rTupleU K [.ref a] H Q) : rTupleU K [.ref a] H Q := h.elim q1 q2
theorem seq_go {te : TE} {σ : L2.St} {R : It → Hp → Prop} (q : te σ H fun x H1 => ∃ a xs, x = .ref a ∧ Inn H1 a xs ∧ ∀ J G, Walk J xs.length G (YAt xs) → (∀ H', (H1 a = H' a) → G H') → R J H1) (m : ∀ {H} {p q : V → Hp → Prop}, (∀ x H, p x H → q x H) → te σ H p → te σ H q) : iSeq K te σ H R := by
  unfold iSeq
  refine m ?_ q
  rintro x H1 ⟨a, xs, rfl, e | e, k⟩
  · exact ⟨a, rfl, .inl ⟨xs, SqL.of e, k _ _ walk_list fun H' hh => SqL.of (hh ▸ e)⟩⟩
  · exact ⟨a, rfl, .inr ⟨xs, SqT.of e, k _ _ walk_tup fun H' hh => SqT.of (hh ▸ e)⟩⟩
theorem seqV_go {n : Nat} {σ : L2.St} {R : It → Hp → Prop} (e : σ[n]? = some (some (.ref a))) (h : Inn H a xs) (q : ∀ J G, Walk J xs.length G (YAt xs) → (∀ H', (H a = H' a) → G H') → R J H) : iSeq K (tVar n) σ H R :=
  seq_go ⟨_, e, a, xs, rfl, h, q⟩ fun {H p q} hh => fun ⟨x, e, z⟩ => ⟨x, e, hh _ _ z⟩
theorem enSV_go {n : Nat} {σ : L2.St} {k : Int} {R : It → Hp → Prop} (e : σ[n]? = some (some (.ref a))) (hk : -9223372036854775808 ≤ k ∧ k < 9223372036854775808) (h : Inn H a xs)
    (q : ∀ J G, Walk J xs.length G (fun i H v H' => ∃ T x, v = .ref T ∧ H T = none ∧ H' = upd H T (.tup [.int (k + (i : Nat)), x]) ∧ xs[i]? = some x) → (∀ H', (H a = H' a) → G H') → R J H) : iEnumS K (tCons (tVar n) tNil) (tC (.int k)) σ H R := by
  unfold iEnumS
  refine ⟨_, e, a, k, rfl, rfl, hk, ?_⟩
  rcases h with e | e
  · exact .inl ⟨xs, SqL.of e, q _ _ walk_enumS fun H' hh => SqL.of (hh ▸ e)⟩
  · exact .inr ⟨xs, SqT.of e, q _ _ walk_enumS fun H' hh => SqT.of (hh ▸ e)⟩
end
theorem gTup_go {K : PySem.W.Frag} {H : Hp} {a : Addr} {xs : List V} {n : Nat} {t : TGs} {σ : L2.St} {Q : L2.St → Hp → Prop} (h : SqT K H a xs) (hl : xs.length = n) (q : t xs σ H Q) : gTup K n t (.ref a) σ H Q := ⟨a, xs, rfl, h, hl, q⟩
theorem Inn.upd {H : Hp} {a p : Addr} {xs : List V} {o : HO} (h : Inn H a xs) (n : H p = none) : Inn (upd H p o) a xs := h.kp (Kp.refl.new n)
theorem Inn.same {H H' : Hp} {a : Addr} {xs : List V} (h : Inn H a xs) (k : Kp [] H H') : H a = H' a :=
  h.elim (fun e => e.trans (k.at_ List.not_mem_nil e).symm) fun e => e.trans (k.at_ List.not_mem_nil e).symm
theorem Inn.newNe {H : Hp} {a p : Addr} {xs : List V} (h : Inn H a xs) (n : H p = none) : a ≠ p := by
  rintro rfl
  rcases h with e | e <;> rw [e] at n <;> cases n
end Kb
/-! ### lists of lists of ints -/
namespace Kb
open PySem PySem.Spec PyProof.Rows L2
def LL (H : Hp) (us : List V) (pss : List (List Int)) : Prop := us.length = pss.length ∧
  ∀ (i : Nat) (v : V), us[i]? = some v → ∃ a ps, pss[i]? = some ps ∧ v = V.ref a ∧ H a = some (.lst (ps.map V.int))
theorem LL.dp {K : PySem.W.Frag} {H : Hp} : ∀ {us : List V} {pss : List (List Int)}, LL H us pss → DpAll K H us (pss.map fun ps => PyData.list (ps.map PyData.int))
  | [], [], _ => .nil
  | [], p :: pss, h => by cases h.1
  | u :: us, [], h => by cases h.1
  | u :: us, p :: pss, h => by
    obtain ⟨a, ps, h1, rfl, h3⟩ := h.2 0 u rfl
    cases h1
    refine .cons (.lst (SqL.of h3) (dp_ints p)) (LL.dp ⟨by have := h.1; simp at this; exact this, fun i v e => ?_⟩)
    obtain ⟨a, ps, h1, h2, h3⟩ := h.2 (i + 1) v (by simpa using e)
    exact ⟨a, ps, by simpa using h1, h2, h3⟩
theorem sh_ll {pss : List (List Int)} : Sh 2 (.list (pss.map fun ps => PyData.list (ps.map PyData.int))) := sh_lst (n := 1) fun d h => by
  obtain ⟨i, _, rfl⟩ := List.mem_map.mp h
  exact sh_ints
theorem LL.kp {M : List Addr} {H H' : Hp} {us : List V} {pss : List (List Int)} (h : LL H us pss) (k : Kp M H H') (m : ∀ a ∈ M, H a = none) : LL H' us pss := ⟨h.1, fun i v e => by
  obtain ⟨a, ps, h1, h2, h3⟩ := h.2 i v e
  exact ⟨a, ps, h1, h2, k.at_ (fun z => by rw [m a z] at h3; cases h3) h3⟩⟩
theorem LL.kp0 {H H' : Hp} {us : List V} {pss : List (List Int)} (h : LL H us pss) (k : Kp [] H H') : LL H' us pss := h.kp k fun a z => nomatch z
/-- two lists of lists that hold alike are not unlike -/
theorem neLL_go {K : PySem.W.Frag} {H : Hp} {Q : VK} {a b : Addr} {us vs : List V} {pss : List (List Int)} (ha : SqL K H a us) (hb : SqL K H b vs) (hu : LL H us pss) (hv : LL H vs pss) (q : Q (.bl false) H) : rNeU K (.ref a) (.ref b) H Q :=
  neD_go (.lst ha hu.dp) (.lst hb hv.dp) (sh_ll.ok (by decide)) (sh_ll.ok (by decide)) (by rw [SeqAt.eqv_refl _ sh_ll.1]; exact q)
end Kb
/-! ### a comprehension within a comprehension -/
namespace Kb
open PySem PySem.Spec PyProof.Rows L2
theorem lookup_rel {c : Str → NameKind → Bool} : ∀ (l : List (Str × NameKind)) (x : Str), (l.lookup x = some .cell ∨ l.lookup x = some .free) →
    ((l.map fun (n, k) => if c n k then (n, NameKind.cell) else (n, k)).lookup x = some .cell ∨ (l.map fun (n, k) => if c n k then (n, NameKind.cell) else (n, k)).lookup x = some .free)
  | [], x, h => by rcases h with h | h <;> cases h
  | (n, k) :: l, x, h => by
    rw [List.lookup_cons] at h
    rw [List.map_cons]
    by_cases e : (x == n) = true
    · rw [e] at h
      dsimp only at h ⊢
      by_cases hc : c n k = true
      · rw [if_pos hc, List.lookup_cons, e]
        exact .inl rfl
      · rw [if_neg hc, List.lookup_cons, e]
        exact h
    · have e : (x == n) = false := by simpa using e
      rw [e] at h
      have ih := lookup_rel (c := c) l x h
      dsimp only
      by_cases hc : c n k = true
      · rw [if_pos hc, List.lookup_cons, e]
        exact ih
      · rw [if_neg hc, List.lookup_cons, e]
        exact ih
theorem blkOk_in {N : List Str} {scope0 scope : Scope} {env : Env} {own : List (Str × Nat)} (h : blkC N scope0 scope own = true) : BlkOk N (relabel scope0 env) scope own := by
  have b := blkOk_by h
  exact ⟨b.kind, b.uniq, b.ix, fun y hy e => lookup_rel (c := fun n k => k == .free && env.scope.kind == .function && env.kindOf n == some .cell) scope0.names y.1 (b.free y hy e), b.own⟩
end Kb
/-! ### objects of an own class: attributes, methods, making -/
namespace Kb
open PySem PySem.Spec PyProof.Rows L2
@[irreducible] def rFldU (K : PySem.W.Frag) (f : Str) : V → Hp → VK → Prop := fun x H Q => ∃ a C dx fs v, x = .ref a ∧ H a = some (.ins C dx fs) ∧ Cls K C ∧ NoAttr K C f ∧ fs.lookup f = some v ∧ Q v H
@[irreducible] def rPutU (K : PySem.W.Frag) (f : Str) : V → V → Hp → (Hp → Prop) → Prop := fun x y H Q => ∃ a C dx fs, x = .ref a ∧ H a = some (.ins C dx fs) ∧ Cls K C ∧ NoAttr K C f ∧ fs.length < 1000 ∧ Q (upd H a (.ins C dx (putF f y fs)))
@[irreducible] def rAugU (K : PySem.W.Frag) (tv : TE) (rd : V → V → Hp → VK → Prop) (f : Str) : V → L2.St → Hp → (Hp → Prop) → Prop := fun x σ H Q => ∃ a C dx fs v, x = .ref a ∧ H a = some (.ins C dx fs) ∧ Cls K C ∧ NoAttr K C f ∧ fs.lookup f = some v ∧
  tv σ H fun y H2 => rd v y H2 fun z H3 => ∃ dx' fs', H3 a = some (.ins C dx' fs') ∧ fs'.length < 1000 ∧ Q (upd H3 a (.ins C dx' (putF f z fs')))
@[irreducible] def rRcvU (C : Addr) (m : Str) : V → Hp → Prop → Prop := fun x H Z => ∃ a dx fs, x = .ref a ∧ H a = some (.ins C dx fs) ∧ fs.lookup m = none ∧ Z
def sFldU (K : PySem.W.Frag) (ta tv : TE) (f : Str) : TS := fun D σ H => tv σ H fun y H1 => ta σ H1 fun x H2 => rPutU K f x y H2 fun H3 => D.nx σ H3
def sFldAugU (K : PySem.W.Frag) (ta tv : TE) (rd : V → V → Hp → VK → Prop) (f : Str) : TS := fun D σ H => ta σ H fun x H1 => rAugU K tv rd f x σ H1 fun H4 => D.nx σ H4
def tMethU (C : Addr) (m : Str) (sp : Sp) (E : XK) (ta : TE) (t : TA) : TE := fun σ H Q => ta σ H fun x H1 => rRcvU C m x H1 (t σ H1 fun vs H2 => sp (x :: vs) H2 Q E)
section
variable {X : Cx} {o e value : Expr} {f : Str} {pos pos' tpos : Pos} {ta tv : TE}
theorem pe_fldU (he : PE X e ta) (hb : attributeBase e f X.env (eval e X.env) = eval e X.env) : PE X (.Attribute e f pos) (tUn (rFldU X.K f) ta) := by
  unfold tUn rFldU
  exact pe_fld he hb
theorem ps_fldU (ha : PE X o ta) (hv : PE X value tv) (hs : swapsWith value (some (.Attribute o f pos')) pos.line X.env = pure false) : PS X (.Assign [.Attribute o f pos'] value pos) (sFldU X.K ta tv f) := by
  unfold sFldU rPutU
  exact ps_fld ha hv hs
theorem ps_fldaugU {op : Operator} {rd : V → V → Hp → VK → Prop} (ha : PE X o ta) (hv : PE X value tv) (hop : PIp X op rd) : PS X (.AugAssign (.Attribute o f tpos) op value pos) (sFldAugU X.K ta tv rd f) := by
  unfold sFldAugU rAugU
  exact ps_fldaug ha hv hop
end
section
variable {K : PySem.W.Frag} {H : Hp} {Q : VK} {a C dx : Addr} {fs fs' : List (Str × V)} {f m : Str} {v y : V}
theorem fld_go (h : H a = some (.ins C dx fs)) (c : Cls K C) (n : NoAttr K C f) (l : fs.lookup f = some v) (q : Q v H) : rFldU K f (.ref a) H Q := by
  unfold rFldU
  exact ⟨a, C, dx, fs, v, rfl, h, c, n, l, q⟩
theorem put_go {Q : Hp → Prop} (h : H a = some (.ins C dx fs)) (c : Cls K C) (n : NoAttr K C f) (hl : fs.length < 1000) (e : putF f y fs = fs') (q : Q (upd H a (.ins C dx fs'))) : rPutU K f (.ref a) y H Q := by
  subst e
  unfold rPutU
  exact ⟨a, C, dx, fs, rfl, h, c, n, hl, q⟩
theorem aug_go {Q : Hp → Prop} {tv : TE} {rd : V → V → Hp → VK → Prop} {σ : L2.St} (h : H a = some (.ins C dx fs)) (c : Cls K C) (n : NoAttr K C f) (l : fs.lookup f = some v)
    (q : tv σ H fun y H2 => rd v y H2 fun z H3 => ∃ dx' fs', H3 a = some (.ins C dx' fs') ∧ fs'.length < 1000 ∧ Q (upd H3 a (.ins C dx' (putF f z fs')))) : rAugU K tv rd f (.ref a) σ H Q := by
  unfold rAugU
  exact ⟨a, C, dx, fs, v, rfl, h, c, n, l, q⟩
theorem augE_go {Q : Hp → Prop} {z : V} (h : H a = some (.ins C dx fs)) (hl : fs.length < 1000) (e : putF f z fs = fs') (q : Q (upd H a (.ins C dx fs'))) : ∃ dx' fs', H a = some (.ins C dx' fs') ∧ fs'.length < 1000 ∧ Q (upd H a (.ins C dx' (putF f z fs'))) := by
  subst e
  exact ⟨dx, fs, h, hl, q⟩
theorem rcv_go {Z : Prop} (h : H a = some (.ins C dx fs)) (l : fs.lookup m = none) (z : Z) : rRcvU C m (.ref a) H Z := by
  unfold rRcvU
  exact ⟨a, dx, fs, rfl, h, l, z⟩
theorem lk_here {k : Str} {v : V} {r : List (Str × V)} : List.lookup k ((k, v) :: r) = some v := by
  have e : (k == k) = true := beq_self_eq_true k
  simp only [List.lookup, e]
theorem lk_past {k g : Str} {v : V} {r : List (Str × V)} {o : Option V} (h : (k == g) = false) (q : List.lookup k r = o) : List.lookup k ((g, v) :: r) = o := by
  simp only [List.lookup, h]
  exact q
theorem put_here {f : Str} {v x : V} {r : List (Str × V)} : putF f v ((f, x) :: r) = (f, v) :: r := if_pos rfl
theorem put_past {f g : Str} {v x : V} {r r' : List (Str × V)} (h : ¬ g = f) (q : putF f v r = r') : putF f v ((g, x) :: r) = (g, x) :: r' := by
  subst q
  exact if_neg h
theorem put_nil {f : Str} {v : V} : putF f v [] = [(f, v)] := rfl
end
/-- the method m of the class at C -/
def DefM (K : PySem.W.Frag) (C : Addr) (st : Stmt) (m qual : Str) : Prop := ∃ f fd, Meth K C m f ∧ Fun K m qual st f fd
structure CalM (P : Program) (w : World) (K : PySem.W.Frag) (mg : Str → Option Value) (base : Heap) (CX : CXT) (k : Nat) (C : Addr) (m : Str) (ps : List Str) (sp : Sp) : Prop where
  ex : ∃ f fd, Meth K C m f ∧ FnOk P w K mg base CX k f fd ps sp ∧ Binds K fd ps []
section
variable {P : Program} {w : World} {K : PySem.W.Frag} {mg : Str → Option Value} {base : Heap}
theorem CalM.of {C : Addr} {m qual : Str} {st : Stmt} {N ps : List Str} {k : Nat} {sp : Sp} (D : DefM K C st m qual) (S : FnScope N ps (defScope st))
    (hb : ∀ (kV doc pm : Value) (an : Option Addr) (cdv ct : Value) (us : List Value), us.length = ps.length → bindArgs (PySem.W.fnOf m qual (defArgs st) (defBody st) (defScope st) .none kV doc pm an cdv ct) ⟨us, []⟩ = pure (ps.zip us))
    (len : ∀ vs H Q E, sp vs H Q E → vs.length = ps.length)
    (hbody : ∀ (f : Addr) (cdv : Value) (A : Around) (outer : List Env) (s : Shared) (H : Hp) (vs : List V) (Q : VK) (E : XK), Room k (A.deeper (envOfC qual (defScope st) s.heap.objs.size f cdv)) → sp vs H Q E →
      ∃ t, PSs (cxOf CX0 P w K mg base N qual (defScope st) f cdv A outer s H E).nox (defBody st) t ∧ t { nx := fun _ H' => Q .non H', rt := Q } (start N vs) H) : CalM P w K mg base CX0 (k + 1) C m ps sp := by
  obtain ⟨f, fd, hm, F⟩ := D
  refine ⟨f, fd, hm, F.ok S len (hbody f), .all ?_⟩
  obtain ⟨oc, od, kV, doc, pm, an, cdv, ct, osl, rfl, lk, hcd⟩ := F.ex
  exact hb kV doc pm an cdv ct
end
section
variable {X : Cx} {CX : CXT} {k : Nat} {C : Addr} {ps : List Str} {sp : Sp} {E : XK} {x m : Str} {p pos apos : Pos} {e o : Expr} {es : List Expr} {ta : TE} {t : TA}
theorem pe_methM {pl : Sem Bool} (he : PE X o ta) (c : Cls X.K C) (M : CalM X.prog X.w X.K X.mg X.base CX k C m ps sp) (hr : Room k X.A) (hx : Passes CX X E) (ha : PA X (e :: es) t)
    (hst : starEach (e :: es) X.env = (false, eval e X.env) :: starEach es X.env := by rfl) (hpl : (backTo pos (starEach es X.env)).any (·.1) = false := by rfl)
    (ht : eval (.Call (.Attribute o m apos) (e :: es) [] pos) X.env = (do
      let ov ← eval o X.env
      standAt apos.atName
      let (f, first) ← holding [ov] (getMethod ov m pl)
      callWith pos f first (backTo pos (starEach (e :: es) X.env)) (backToKw pos (keywordEach [] X.env))) := by rfl) :
    PE X (.Call (.Attribute o m apos) (e :: es) [] pos) (tMethU C m sp E ta t) := by
  obtain ⟨f, fd, hm, F, hb⟩ := M.ex
  have := pe_meth (pos := pos) (apos := apos) (dvs := []) (E := E) he c hm F hr hb .nil hx ha hst hpl ht
  unfold tMethU rRcvU
  unfold tMeth at this
  simpa only [List.append_nil] using this
theorem pe_methM0 {pl : Sem Bool} (he : PE X o ta) (c : Cls X.K C) (M : CalM X.prog X.w X.K X.mg X.base CX k C m ps sp) (hr : Room k X.A) (hx : Passes CX X E)
    (ht : eval (.Call (.Attribute o m apos) [] [] pos) X.env = (do
      let ov ← eval o X.env
      standAt apos.atName
      let (f, first) ← holding [ov] (getMethod ov m pl)
      callWith pos f first (backTo pos (starEach [] X.env)) (backToKw pos (keywordEach [] X.env))) := by rfl) :
    PE X (.Call (.Attribute o m apos) [] [] pos) (tMethU C m sp E ta tNil) := by
  obtain ⟨f, fd, hm, F, hb⟩ := M.ex
  have := pe_meth0 (pos := pos) (apos := apos) (dvs := []) (E := E) he c hm F hr hb .nil hx ht
  unfold tMethU rRcvU
  unfold tMeth at this
  simpa only [List.append_nil] using this
theorem pe_makeM0 (hmk : PySem.W.makesIn X.K C = true) (hkc : PySem.W.keepIn X.K (.ref C) = true) (M : CalM X.prog X.w X.K X.mg X.base CX k C "__init__" ps sp) (hr : Room (k + 1) X.A) (hg : Gl X x) (hm : X.mg x = some (.ref C)) (hx : Passes CX X E)
    (hdb : (x == ("__debug__" : Str)) = false := by decide) : PE X (.Call (.Name x p) [] [] pos) (tMake C sp [] E tNil) := by
  obtain ⟨f, fd, hme, F, hb⟩ := M.ex
  exact pe_make0 ⟨hmk, hme.at_, hme.fn, hkc⟩ F hr hg hm hb .nil hx hdb
theorem pe_makeM (hmk : PySem.W.makesIn X.K C = true) (hkc : PySem.W.keepIn X.K (.ref C) = true) (M : CalM X.prog X.w X.K X.mg X.base CX k C "__init__" ps sp) (hr : Room (k + 1) X.A) (hg : Gl X x) (hm : X.mg x = some (.ref C)) (hx : Passes CX X E) (ha : PA X (e :: es) t)
    (hdb : (x == ("__debug__" : Str)) = false := by decide) (he : starEach (e :: es) X.env = (false, eval e X.env) :: starEach es X.env := by rfl) (hpl : (backTo pos (starEach es X.env)).any (·.1) = false := by rfl) :
    PE X (.Call (.Name x p) (e :: es) [] pos) (tMake C sp [] E t) := by
  obtain ⟨f, fd, hme, F, hb⟩ := M.ex
  exact pe_make ⟨hmk, hme.at_, hme.fn, hkc⟩ F hr hg hm hb .nil hx ha hdb he hpl
end
end Kb

open L2 Kb PySem
/-! steps by name: "ne" a ≠ b, "h" H a = some o, "c" a side condition, "l" a list that is read, "s" one step of a reading -/
local macro_rules | `(tactic| walk_at "ne") => `(tactic| first
  | assumption
  | (apply Ne.symm; assumption)
  | (refine' ne_of_none ?kh ?kn; (case kn => assumption); (case kh => walk_at "h"))
  | (refine' Ne.symm (ne_of_none ?kh ?kn); (case kn => assumption); (case kh => walk_at "h"))
  | fail)
local macro_rules | `(tactic| walk_at "nm") => `(tactic| first
  | exact List.not_mem_nil
  | (refine' nm_cons ?kn ?km; (case kn => walk_at "ne"); (case km => walk_at "nm"))
  | fail)
local macro_rules | `(tactic| walk_at "h") => `(tactic| first
  | assumption
  | exact upd_same
  | (refine' (upd_ne ?kn).trans ?kh; (case kn => walk_at "ne"); (case kh => walk_at "h"))
  | (refine' Kp.at_ ?kk ?kn ?kh; (case kk => assumption); (case kn => walk_at "nm"); (case kh => walk_at "h"))
  | (refine' Same.at_ ?kk ?kh; (case kk => assumption); (case kh => walk_at "h"))
  | fail)
local macro_rules | `(tactic| walk_at "c") => `(tactic| first
  | assumption
  | rfl
  | omega
  | decide
  | (simp only [List.length_cons, List.length_nil, List.length_map, List.length_append, List.length_range, List.length_replicate]; omega)
  | fail)
local macro_rules | `(tactic| walk_at "l") => `(tactic| first
  | assumption
  | exact SqL.of (by walk_at "h")
  | (refine Kp.sqL (by assumption) ?_ ?_ <;> first | assumption | walk_at "nm" | walk_at "l")
  | fail)
local macro_rules | `(tactic| walk_at "t") => `(tactic| first
  | assumption
  | exact SqT.of (by walk_at "h")
  | (refine Kp.sqT (by assumption) ?_ ?_ <;> first | assumption | walk_at "nm" | walk_at "t")
  | fail)
local macro_rules | `(tactic| walk_at "i") => `(tactic| first
  | assumption
  | exact .inl (by walk_at "h")
  | exact .inr (by walk_at "h")
  | (refine' Inn.kp (H := ?_) ?k1 ?k2; (case k2 => assumption); (case k1 => walk_at "i"))
  | (refine' Inn.upd ?k1 ?k2; (case k2 => assumption); (case k1 => walk_at "i"))
  | fail)
local macro_rules | `(tactic| walk_at "mem") => `(tactic| first
  | exact List.mem_cons_self
  | (refine' List.mem_cons_of_mem _ ?k1; (case k1 => walk_at "mem"))
  | fail)
local macro_rules | `(tactic| walk_at "kp") => `(tactic| first
  | assumption
  | exact Kp.refl
  | (refine' Kp.upd_in ?k1 ?k2; (case k2 => walk_at "mem"); (case k1 => walk_at "kp"))
  | (refine' Kp.upd_new ?k1 ?k2; (case k2 => assumption); (case k1 => walk_at "kp"))
  | (refine' Kp.upd_new' ?k1 ?k2; (case k2 => assumption); (case k1 => walk_at "kp"))
  | (refine' Kp.upd_new ?k1 ?k2; (case k2 => walk_at "no"); (case k1 => walk_at "kp"))
  | fail)
local macro_rules | `(tactic| walk_at "no") => `(tactic| first
  | assumption
  | (refine' none_of ?k1 ?k2; (case k2 => assumption); (case k1 => walk_at "kp"))
  | fail)
local macro_rules | `(tactic| walk_at "ki") => `(tactic| first
  | exact ki_NoneType_str
  | exact ki_NoneType_int
  | exact ki_NoneType_bool
  | exact ki_NoneType_list
  | exact ki_NoneType_tuple
  | exact ki_NoneType_dict
  | exact ki_bool_str
  | exact ki_bool_int
  | exact ki_bool_bool
  | exact ki_bool_list
  | exact ki_bool_tuple
  | exact ki_bool_dict
  | exact ki_int_str
  | exact ki_int_int
  | exact ki_int_bool
  | exact ki_int_list
  | exact ki_int_tuple
  | exact ki_int_dict
  | exact ki_str_str
  | exact ki_str_int
  | exact ki_str_bool
  | exact ki_str_list
  | exact ki_str_tuple
  | exact ki_str_dict
  | exact ki_list_str
  | exact ki_list_int
  | exact ki_list_bool
  | exact ki_list_list
  | exact ki_list_tuple
  | exact ki_list_dict
  | exact ki_tuple_str
  | exact ki_tuple_int
  | exact ki_tuple_bool
  | exact ki_tuple_list
  | exact ki_tuple_tuple
  | exact ki_tuple_dict
  | exact ki_dict_str
  | exact ki_dict_int
  | exact ki_dict_bool
  | exact ki_dict_list
  | exact ki_dict_tuple
  | exact ki_dict_dict
  | fail)
local macro_rules | `(tactic| walk_at "ty") => `(tactic| first
  | assumption
  | exact .base (.int _)
  | exact .base (.str _)
  | exact .base (.bl _)
  | exact .base .non
  | (refine' .base (.lst ?k1); (case k1 => walk_at "h"))
  | (refine' .base (.tup ?k1); (case k1 => walk_at "h"))
  | (refine' .base (.dK ?k1); (case k1 => walk_at "h"))
  | fail)
local macro_rules | `(tactic| walk_at "lk") => `(tactic| first
  | exact lk_here
  | (refine' lk_past ?k1 ?k2; (case k1 => decide +kernel); (case k2 => walk_at "lk"))
  | rfl
  | fail)
local macro_rules | `(tactic| walk_at "pf") => `(tactic| first
  | exact put_here
  | exact put_nil
  | (refine' put_past ?k1 ?k2; (case k1 => decide +kernel); (case k2 => walk_at "pf"))
  | fail)
local macro_rules | `(tactic| walk_at "s1") => `(tactic| first
  | (refine' add_go  ?kq)
  | (refine' sub_go  ?kq)
  | (refine' mul_goL ?k1 ?k2 ?kq; (case k1 => walk_at "c"); (case k2 => walk_at "c"))
  | (refine' mul_goR ?k1 ?k2 ?kq; (case k1 => walk_at "c"); (case k2 => walk_at "c"))
  | (refine' mod_go ?k1 ?kq; (case k1 => walk_at "c"))
  | (refine' div_go ?k1 ?k2 ?kq; (case k1 => walk_at "c"); (case k2 => walk_at "c"))
  | (refine' eq_go  ?kq)
  | (refine' ne_go  ?kq)
  | (refine' lt_go  ?kq)
  | (refine' le_go  ?kq)
  | (refine' gt_go  ?kq)
  | (refine' ge_go  ?kq)
  | (refine' ixL_go ?k1 ?k2 ?kq; (case k1 => walk_at "l"); (case k2 => rfl))
  | (refine' ixT_go ?k1 ?k2 ?kq; (case k1 => walk_at "t"); (case k2 => rfl))
  | (refine' set_go ?k1 ?k2 ?kq; (case k1 => walk_at "h"); (case k2 => rfl))
  | (refine' eqS_go  ?kq)
  | (refine' neS_go  ?kq)
  | (refine' eqB_go  ?kq)
  | (refine' neB_go  ?kq)
  | (refine' eqN_go  ?kq)
  | (refine' neI0_go ?k1 ?k2 ?kq; (case k1 => walk_at "l"); (case k2 => walk_at "l"))
  | (refine' eqI0_go ?k1 ?k2 ?kq; (case k1 => walk_at "l"); (case k2 => walk_at "l"))
  | (refine' neI_go ?k1 ?k2 ?kq; (case k1 => walk_at "l"); (case k2 => walk_at "l"))
  | (refine' eqI_go ?k1 ?k2 ?kq; (case k1 => walk_at "l"); (case k2 => walk_at "l"))
  | (refine' len_str ?k1 ?kq; (case k1 => walk_at "c"))
  | (refine' len_lst ?k1 ?kq; (case k1 => walk_at "l"))
  | (refine' len_tup ?k1 ?kq; (case k1 => walk_at "t"))
  | (refine' len_dK ?k1 ?kq; (case k1 => walk_at "h"))
  | (refine' isi_go ?k1 ?k2 ?kq; (case k1 => walk_at "ty"); (case k2 => walk_at "ki"))
  | (refine' isi2_go ?k1 ?k2 ?k3 ?k4 ?kq; (case k1 => walk_at "h"); (case k2 => walk_at "ty"); (case k3 => walk_at "ki"); (case k4 => walk_at "ki"))
  | (refine' int_go  ?kq)
  | (refine' intB_go  ?kq)
  | (refine' pow_go ?k1 ?k2 ?k3 ?kq; (case k1 => walk_at "c"); (case k2 => walk_at "c"); (case k3 => walk_at "c"))
  | (refine' neg_go  ?kq)
  | (refine' app_go ?k1 ?k2 ?kq; (case k1 => walk_at "h"); (case k2 => walk_at "c"))
  | (refine' addL_go ?k1 ?k2 ?k3 ?kq; (case k1 => walk_at "h"); (case k2 => walk_at "h"); (case k3 => walk_at "c"))
  | (refine' addLS_go ?k1 ?k2 ?k3 ?kq; (case k1 => walk_at "l"); (case k2 => walk_at "l"); (case k3 => walk_at "c"))
  | (refine' addS_go ?k1 ?kq; (case k1 => walk_at "c"))
  | (refine' rep_go ?k1 ?k2 ?k3 ?k4 ?kq; (case k1 => walk_at "h"); (case k2 => walk_at "c"); (case k3 => walk_at "c"); (case k4 => walk_at "c"))
  | (refine' iadd_go  ?kq)
  | (refine' iaddL_go ?k1 ?k2 ?k3 ?kq; (case k1 => walk_at "h"); (case k2 => walk_at "h"); (case k3 => walk_at "c"))
  | (refine' isub_go  ?kq)
  | (refine' imod_go ?k1 ?kq; (case k1 => walk_at "c"))
  | (refine' ltS_go  ?kq)
  | (refine' gtS_go  ?kq)
  | (refine' isN_go  ?kq)
  | (refine' notN_go  ?kq)
  | (refine' inC_go  ?kq)
  | (refine' notInC_go  ?kq)
  | (refine' list_goL ?k1 ?kq; (case k1 => walk_at "l"))
  | (refine' list_goT ?k1 ?kq; (case k1 => walk_at "t"))
  | (refine' tuple_goL ?k1 ?kq; (case k1 => walk_at "l"))
  | (refine' tuple_goT ?k1 ?kq; (case k1 => walk_at "t"))
  | (refine' list_goI ?k1 ?kq; (case k1 => walk_at "i"))
  | (refine' pop0_go ?k1 ?kq; (case k1 => walk_at "h"))
  | (refine' popE_go ?k1 ?kq; (case k1 => walk_at "h"))
  | (refine' slL_go ?k1 ?kq; (case k1 => walk_at "l"))
  | (refine' slS_go ?k1 ?kq; (case k1 => walk_at "c"))
  | (refine' ord_go  ?kq)
  | (refine' abs_go  ?kq)
  | (refine' fld_go ?k1 ?k2 ?k3 ?k4 ?kq; (case k1 => walk_at "h"); (case k2 => assumption); (case k3 => assumption); (case k4 => walk_at "lk"))
  | (refine' put_go ?k1 ?k2 ?k3 ?k4 ?k5 ?kq; (case k1 => walk_at "h"); (case k2 => assumption); (case k3 => assumption); (case k5 => walk_at "pf"); (case k4 => first | decide | (simp only [List.length_cons, List.length_nil]; decide)))
  | (refine' aug_go ?k1 ?k2 ?k3 ?k4 ?kq; (case k1 => walk_at "h"); (case k2 => assumption); (case k3 => assumption); (case k4 => walk_at "lk"))
  | (refine' rcv_go ?k1 ?k2 ?kq; (case k1 => walk_at "h"); (case k2 => walk_at "lk"))
  | fail)
local macro_rules | `(tactic| walk_at "s") => `(tactic| first
  | refine ⟨_, rfl, ?_⟩
  | refine iteD (fun _ => ?_) (fun _ => ?_)
  | refine iteN (fun _ => ?_) (fun _ => ?_)
  | refine iteT ?_
  | refine iteF ?_
  | walk_at "s1"
  | with_reducible refine st_nx ?_
  | (dsimp only; with_reducible refine st_nx ?_)
  | (refine' gTup_go ?k1 ?k2 ?kq; (case k1 => walk_at "t"); (case k2 => rfl))
  | refine And.intro (sz_of' (by walk_at "c")) ?_
  | refine And.intro (by walk_at "c") ?_
  | refine ⟨_, _, rfl, ?_⟩
  | refine ⟨_, _, _, rfl, ?_⟩
  | refine ⟨_, _, _, _, rfl, ?_⟩
  | refine ⟨.inl ⟨rfl, _, by walk_at "l"⟩, ?_⟩
  | refine ⟨⟨_, rfl⟩, ?_⟩
  | (refine fun (p : Addr) (np : _ = none) => ?_)
  | (refine fun (x dx : Addr) (nx : _ = none) (nd : _ = none) (ne : _ ≠ _) => ?_)
  | (refine' augE_go ?k1 ?k2 ?k3 ?kq; (case k1 => walk_at "h"); (case k3 => walk_at "pf"); (case k2 => first | decide | (simp only [List.length_cons, List.length_nil]; decide)))
  | refine iteB (fun _ => ?_) (fun _ => ?_)
  | (refine' seqV_go ?k1 ?k2 (fun J G w hG => ?kq); (case k1 => rfl); (case k2 => walk_at "i"))
  | (refine' enSV_go ?k1 ?k2 ?k3 (fun J G w hG => ?kq); (case k1 => rfl); (case k2 => exact ⟨by decide, by decide⟩); (case k3 => walk_at "i"))
  | fail)
local macro_rules | `(tactic| walk_at "go") => `(tactic| repeat' walk_at "s")
/-! ### own exception classes: made, raised, caught, looked at -/
namespace Kb
open PySem PySem.Spec PyProof.Rows L2
/-- where the top has what it calls x -/
def cAt (K : PySem.W.Frag) (x : Str) : Addr := match PySem.W.nsIn K mainGlobals x with
  | some (some (.ref a)) => a
  | _ => default
theorem cAt_of {K : PySem.W.Frag} {x : Str} {a : Addr} (h : PySem.W.nsIn K mainGlobals x = some (some (.ref a))) : cAt K x = a := by
  unfold cAt
  rw [h]
section
variable {P : Program} {w : World} {K : PySem.W.Frag} {mg : Str → Option Value} {base : Heap}
theorem Cal.ofX {x : Str} {st : Stmt} {N ps : List Str} {k : Nat} {sp : Sp} (D : Def K mg st x) (S : FnScope N ps (defScope st))
    (hb : ∀ (kV doc pm : Value) (an : Option Addr) (cdv ct : Value) (us : List Value), us.length = ps.length → bindArgs (PySem.W.fnOf x x (defArgs st) (defBody st) (defScope st) .none kV doc pm an cdv ct) ⟨us, []⟩ = pure (ps.zip us))
    (len : ∀ vs H Q E, sp vs H Q E → vs.length = ps.length)
    (hbody : ∀ (f : Addr) (cdv : Value) (A : Around) (outer : List Env) (s : Shared) (H : Hp) (vs : List V) (Q : VK) (E : XK), Room k (A.deeper (envOfC x (defScope st) s.heap.objs.size f cdv)) → sp vs H Q E →
      ∃ t, PSs (cxOf (L2.CX P w) P w K mg base N x (defScope st) f cdv A outer s H E) (defBody st) t ∧ t { nx := fun _ H' => Q .non H', rt := Q } (start N vs) H) : Cal P w K mg base (L2.CX P w) (k + 1) x ps sp := by
  obtain ⟨f, fd, hm, F⟩ := D
  refine ⟨f, fd, hm, F.okX S len (hbody f), F.kp, ?_, Fun.at_ F⟩
  obtain ⟨oc, od, kV, doc, pm, an, cdv, ct, osl, rfl, lk, hcd⟩ := F.ex
  exact hb kV doc pm an cdv ct
theorem CalM.ofX {C : Addr} {m qual : Str} {st : Stmt} {N ps : List Str} {k : Nat} {sp : Sp} (D : DefM K C st m qual) (S : FnScope N ps (defScope st))
    (hb : ∀ (kV doc pm : Value) (an : Option Addr) (cdv ct : Value) (us : List Value), us.length = ps.length → bindArgs (PySem.W.fnOf m qual (defArgs st) (defBody st) (defScope st) .none kV doc pm an cdv ct) ⟨us, []⟩ = pure (ps.zip us))
    (len : ∀ vs H Q E, sp vs H Q E → vs.length = ps.length)
    (hbody : ∀ (f : Addr) (cdv : Value) (A : Around) (outer : List Env) (s : Shared) (H : Hp) (vs : List V) (Q : VK) (E : XK), Room k (A.deeper (envOfC qual (defScope st) s.heap.objs.size f cdv)) → sp vs H Q E →
      ∃ t, PSs (cxOf (L2.CX P w) P w K mg base N qual (defScope st) f cdv A outer s H E) (defBody st) t ∧ t { nx := fun _ H' => Q .non H', rt := Q } (start N vs) H) : CalM P w K mg base (L2.CX P w) (k + 1) C m ps sp := by
  obtain ⟨f, fd, hm, F⟩ := D
  refine ⟨f, fd, hm, F.okX S len (hbody f), .all ?_⟩
  obtain ⟨oc, od, kV, doc, pm, an, cdv, ct, osl, rfl, lk, hcd⟩ := F.ex
  exact hb kV doc pm an cdv ct
/-- the __init__ of an exception's class -/
def DefI (K : PySem.W.Frag) (C : Addr) (st : Stmt) (qual : Str) : Prop := ∃ f fd, PySem.W.findIn K (.ref C) "__init__" = some (some (.ref f)) ∧ PySem.W.typeIn K (.ref f) = some (.type "function") ∧ Fun K "__init__" qual st f fd
structure CalI (P : Program) (w : World) (K : PySem.W.Frag) (mg : Str → Option Value) (base : Heap) (k : Nat) (C : Addr) (ps : List Str) (sp : Sp) : Prop where
  ex : ∃ f fd, PySem.W.findIn K (.ref C) "__init__" = some (some (.ref f)) ∧ PySem.W.typeIn K (.ref f) = some (.type "function") ∧ FnOk P w K mg base CX0 k f fd ps sp ∧ Binds K fd ps []
theorem CalI.of {C : Addr} {qual : Str} {st : Stmt} {N ps : List Str} {k : Nat} {sp : Sp} (D : DefI K C st qual) (S : FnScope N ps (defScope st))
    (hb : ∀ (kV doc pm : Value) (an : Option Addr) (cdv ct : Value) (us : List Value), us.length = ps.length → bindArgs (PySem.W.fnOf "__init__" qual (defArgs st) (defBody st) (defScope st) .none kV doc pm an cdv ct) ⟨us, []⟩ = pure (ps.zip us))
    (len : ∀ vs H Q E, sp vs H Q E → vs.length = ps.length)
    (hbody : ∀ (f : Addr) (cdv : Value) (A : Around) (outer : List Env) (s : Shared) (H : Hp) (vs : List V) (Q : VK) (E : XK), Room k (A.deeper (envOfC qual (defScope st) s.heap.objs.size f cdv)) → sp vs H Q E →
      ∃ t, PSs (cxOf CX0 P w K mg base N qual (defScope st) f cdv A outer s H E).nox (defBody st) t ∧ t { nx := fun _ H' => Q .non H', rt := Q } (start N vs) H) : CalI P w K mg base (k + 1) C ps sp := by
  obtain ⟨f, fd, h1, h2, F⟩ := D
  refine ⟨f, fd, h1, h2, F.ok S len (hbody f), .all ?_⟩
  obtain ⟨oc, od, kV, doc, pm, an, cdv, ct, osl, rfl, lk, hcd⟩ := F.ex
  exact hb kV doc pm an cdv ct
end
/-- what the written part says of an own exception's class -/
structure XCls (K : PySem.W.Frag) (C : Addr) : Prop where
  o : OexC K C
  xf : XfC K C
  cl : (PySem.W.clsIn K C).isSome = true
  ha : PySem.W.findIn K (.ref C) "__class__" = some (some (.builtin "object.__class__"))
  hn : PySem.W.specialIn K (.builtin "object.__class__") "__get__" = some (some (.builtin "getset_descriptor.__get__"))
  ht : PySem.W.takesIn K (.builtin "object.__class__") = some true
  hm : PySem.W.mroIn K C (.type "object") = some true
/-- an exception's __init__ whose fields are told by its arguments -/
@[irreducible] def spInit (C : Addr) (n : Nat) (fs : List V → List (Str × V)) : Sp := fun vs H Q _ => ∃ a ws, vs = .ref a :: ws ∧ ws.length = n ∧ H a = some (exo a C none) ∧ ∀ d, H d = none → d ≠ a → Q .non (upd (upd H d (exd d (fs ws))) a (exo a C (some d)))
theorem spInit_len {C : Addr} {n : Nat} {fs : List V → List (Str × V)} (vs : List V) (H : Hp) (Q : VK) (E : XK) (h : spInit C n fs vs H Q E) : vs.length = n + 1 := by
  unfold spInit at h
  obtain ⟨a, ws, rfl, h, _⟩ := h
  rw [List.length_cons, h]
theorem mkO_go {C : Addr} {n : Nat} {fs : List V → List (Str × V)} {vs : List V} {H : Hp} {Z : XK} (hn : vs.length = n) (hl : n ≤ 1000) (h : ∀ d, H d = none → Z (.ref C) (some d) (upd H d (.xd (fs vs)))) :
    vs.length ≤ 1000 ∧ ∀ a, H a = none → spInit C n fs (.ref a :: (vs ++ [])) (upd H a (exo a C none))
      (fun v H2 => v = .non ∧ ∃ (d : Addr) (fs : List (Str × V)), H2 a = some (exo a C (some d)) ∧ H2 d = some (exd d fs) ∧ H d = none ∧ Z (.ref C) (some d) (upd (del H2 a) d (.xd fs))) (fun _ _ _ => False) := by
  refine ⟨by omega, fun a ha => ?_⟩
  unfold spInit
  refine ⟨a, vs, by rw [List.append_nil], hn, upd_same, fun d hd da => ⟨rfl, d, fs vs, upd_same, (upd_ne da).trans upd_same, (upd_ne da).symm.trans hd, ?_⟩⟩
  have hd0 : H d = none := (upd_ne da).symm.trans hd
  have e : upd (del (upd (upd (upd H a (exo a C none)) d (exd d (fs vs))) a (exo a C (some d))) a) d (.xd (fs vs)) = upd H d (.xd (fs vs)) := by
    funext b
    by_cases hb : b = d
    · rw [hb, upd_same, upd_same]
    · rw [upd_ne hb, upd_ne hb]
      by_cases hba : b = a
      · rw [hba, del_same, ha]
      · rw [del_ne hba, upd_ne hba, upd_ne hb, upd_ne hba]
  rw [e]
  exact h d hd0
/-- raise x(e, ..) -/
def tRaiseI (C : Addr) (sp : Sp) (W : WX) (ta : TA) : TS := fun _ σ H => tMkO C sp [] ta σ H fun cls d H' => W cls d σ H'
section
variable {X : Cx} {C : Addr} {x : Str} {k : Nat} {ps : List Str} {sp : Sp} {W : WX} {e : Expr} {es : List Expr} {ta : TA} {p pos pos2 : Pos}
theorem ps_raiseI (hc : X.calm = true) (T : XCls X.K C) (M : CalI X.prog X.w X.K X.mg X.base k C ps sp) (hr : Room (k + 1) X.A) (tk : Takes X W) (hg : Gl X x) (hm : X.mg x = some (.ref C)) (ha : PA X (e :: es) ta)
    (hdb : (x == ("__debug__" : Str)) = false := by decide) (he : starEach (e :: es) X.env = (false, eval e X.env) :: starEach es X.env := by rfl) (hpl : (backTo pos (starEach es X.env)).any (·.1) = false := by rfl) :
    PS X (.Raise (some (.Call (.Name x p) (e :: es) [] pos)) none pos2) (tRaiseI C sp W ta) := by
  obtain ⟨f, fd, h1, h2, F, hb⟩ := M.ex
  exact ps_raise hc tk (pmk_oex T.o h1 h2 F hr hb .nil (fun _ _ _ _ _ _ _ h => h.elim) hg hm ha hdb he hpl)
end
/-- o.m(e, ..), what it raises wished for at the slots as they stand -/
def tMethUS (C : Addr) (m : Str) (sp : Sp) (E : L2.St → XK) (ta : TE) (t : TA) : TE := fun σ H Q => tMethU C m sp (E σ) ta t σ H Q
section
variable {X : Cx} {CX : CXT} {k : Nat} {C : Addr} {ps : List Str} {sp : Sp} {E : L2.St → XK} {x m : Str} {p pos apos : Pos} {e o : Expr} {es : List Expr} {ta : TE} {t : TA}
theorem pe_methMS {pl : Sem Bool} (he : PE X o ta) (c : Cls X.K C) (M : CalM X.prog X.w X.K X.mg X.base CX k C m ps sp) (hr : Room k X.A) (hx : ∀ σ, PassesAt CX X σ (E σ)) (ha : PA X (e :: es) t)
    (hst : starEach (e :: es) X.env = (false, eval e X.env) :: starEach es X.env := by rfl) (hpl : (backTo pos (starEach es X.env)).any (·.1) = false := by rfl)
    (ht : eval (.Call (.Attribute o m apos) (e :: es) [] pos) X.env = (do
      let ov ← eval o X.env
      standAt apos.atName
      let (f, first) ← holding [ov] (getMethod ov m pl)
      callWith pos f first (backTo pos (starEach (e :: es) X.env)) (backToKw pos (keywordEach [] X.env))) := by rfl) :
    PE X (.Call (.Attribute o m apos) (e :: es) [] pos) (tMethUS C m sp E ta t) := by
  obtain ⟨f, fd, hm, F, hb⟩ := M.ex
  refine ⟨fun pins s σ H Q I h => ?_⟩
  unfold tMethUS tMethU rRcvU at h
  refine PySem.W.methodCall_KW (pl := pl) (thn (he.run pins s σ H _ I h) fun u s1 ⟨x, H1, I1, rx, a, dx, fs, ex, ea, l, q⟩ => ?_) ht
  subst ex
  obtain rfl : u = Value.ref a := rx
  refine getmeth_ok I1 ea c hm l ?_
  refine PySem.W.callWith_K (first := [.ref a]) (h₀ := X.base) I.ok.mod.kin hm.kp (thn (ha.run pos pins s1 σ H1 _ I1 q) fun us s2 ⟨vs, H2, I2, r, q2⟩ => ⟨I2.kIn, ?_⟩) hst hpl
  exact run_fnS (us := .ref a :: us) (vs := .ref a :: vs) F hr hb (hx σ) I2 (.cons rfl r) q2
theorem pe_callCS (C : Cal X.prog X.w X.K X.mg X.base CX k x ps sp) (hr : Room k X.A) (hg : Gl X x) (hx : ∀ σ, PassesAt CX X σ (E σ))
    (ha : PA X (e :: es) t) (hdb : (x == ("__debug__" : Str)) = false := by decide) (he : starEach (e :: es) X.env = (false, eval e X.env) :: starEach es X.env := by rfl) (hpl : (backTo pos (starEach es X.env)).any (·.1) = false := by rfl) :
    PE X (.Call (.Name x p) (e :: es) [] pos) (tCallS sp E t) := by
  obtain ⟨f, fd, hm, F, hk, hb⟩ := C.bound
  exact pe_callS F hr hg hm hk hb hx ha hdb he hpl
end
/-- try: .. except c as n: .. -/
def tTryAs (K : PySem.W.Frag) (c : Value) (i : Nat) (tb : WX → TS) (ts : Addr → Value → Option Addr → TS) : TS := fun D σ H => tb (wAs K c i ts (fun _ _ _ _ => False) D) D σ H
theorem takes_none {X : Cx} : Takes X (fun _ _ _ _ => False) := fun _ _ h => by
  obtain ⟨_, _, _, _, _, _, _, _, _, _, _, _, _, _, _, _, z⟩ := h
  exact z.elim
/-- isinstance(e, c), e the caught exception with its dict -/
def rIsXd (K : PySem.W.Frag) (a : Addr) (cls : Value) (d : Option Addr) : List V → Hp → VK → Prop := fun xs H Q => ∃ (C : Addr) (c : V) (cv : Value) (b : Bool) (dd : Addr) (fs : List (Str × V)),
  xs = [.ref a, c] ∧ cls = .ref C ∧ d = some dd ∧ H dd = some (.xd fs) ∧ XCls K C ∧ (∀ u, RelV c u → u = cv) ∧ PySem.W.kitOne K (.ref C) cv = some b ∧ Q (.bl b) H
theorem call_isXd {X : Cx} {a : Addr} {oe : Obj} {cls : Value} {d : Option Addr} {pn : List (Addr × Obj)} (hz : Zc cls d oe) (hf : ∃ vs, oe.data = .fields vs) : CallR (X.suite a ((a, oe) :: pn)) (.builtin "isinstance") (rIsXd X.K a cls d) := by
  intro pins s σ H xs us Q I r h
  obtain ⟨C, c, cv, b, dd, fs, rfl, rfl, rfl, ea, T, hcv, e, q⟩ := h
  cases r with
  | cons rx rr =>
    cases rr with
    | cons rt rr =>
      cases rr
      cases rx
      have ec := hcv _ rt
      subst ec
      obtain ⟨hget, _⟩ := I.pin (a, oe) (List.mem_append.mpr (.inl List.mem_cons_self))
      obtain ⟨vs, hv⟩ := hf
      have hx : ObjOk X.prog X.w H s.heap dd (.xd fs) := I.hok dd _ ea
      obtain ⟨mA, hns, hr⟩ := hx
      obtain ⟨od, ho, hl⟩ := lookIn_ns hns
      have J : PySem.W.InstAt s.heap a oe C (some od) := ⟨hget, hz.1, by unfold PySem.W.notCls; rw [hv] <;> rfl, by rw [hz.2]; exact ho⟩
      exact PySem.W.kia_one (PySem.W.kitx_exc T.cl T.xf.ga T.xf.gg T.xf.exC T.ha T.hn T.ht T.hm) I.kIn J e (fun z => nomatch z) fun tk => ⟨.bl b, H, I.kept (t' := tk) fun _ _ z => z, rfl, q⟩
theorem pe_gref {X : Cx} {x : Str} {a : Addr} {pos : Pos} (hg : Gl X x) (hm : X.mg x = some (.ref a)) (hd : (x == ("__debug__" : Str)) = false := by decide) : PE X (.Name x pos) (tC (.ref a)) := pe_glob hg hm rfl hd
end Kb

/-! ### dicts: made of dicts, lists and tuples of pairs; emptied -/
namespace Kb
open PySem PySem.Spec PyProof.Rows L2
section
variable {X : Cx}
/-- a tuple whose object is told whole -/
def ptup (a : Addr) (xs : List V) : HO := .ext fun h => xs.length ≤ sizeLine ∧ ∃ (its : List Value) (n : Nat) (sl : Array (Option Value)), Vals xs its ∧ h.get? a = some ⟨.type "tuple", none, .seq its.toArray n, sl⟩
def PTup (K : PySem.W.Frag) (H : Hp) (a : Addr) (xs : List V) : Prop := H a = some (ptup a xs) ∨ ∃ (its : List Value) (n : Nat) (sl : Array (Option Value)), K.lookup a = some ⟨.type "tuple", none, .seq its.toArray n, sl⟩ ∧ xs.length ≤ sizeLine ∧ Vals xs its
theorem PTup.at_ {pins : List (Addr × Obj)} {σ : L2.St} {H : Hp} {s : Shared} {a : Addr} {xs : List V} (I : Inv X pins σ H s) (h : PTup X.K H a xs) : ∃ (its : List Value) (n : Nat) (sl : Array (Option Value)), Vals xs its ∧ xs.length ≤ sizeLine ∧ s.heap.get? a = some ⟨.type "tuple", none, .seq its.toArray n, sl⟩ := by
  rcases h with h | ⟨its, n, sl, l, z, r⟩
  · obtain ⟨⟨z, its, n, sl, r, e⟩, _, _⟩ := I.hok a _ h
    exact ⟨its, n, sl, r, z, e⟩
  · exact ⟨its, n, sl, r, z, I.kIn a _ l⟩
/-- pairs at hand: their keys and things -/
theorem prs_of {pins : List (Addr × Obj)} {σ : L2.St} {H : Hp} {s : Shared} (I : Inv X pins σ H s) : ∀ {ps : List Addr} {kvs : List (L2.Key × V)}, Paired (fun p kv => SqT X.K H p [kV kv.1, kv.2]) ps kvs →
    ∃ (prs : List (L2.Key × Value)) (pvs : List (Value × Value)), KV kvs prs ∧ prs.length = ps.length ∧ pvs.length = ps.length ∧ ∀ (j : Nat) (k v : Value), pvs[j]? = some (k, v) → ∃ (b : Addr) (c : L2.Key), ps[j]? = some b ∧ s.heap.IsTuple b #[k, v] ∧ prs[j]? = some (c, v) ∧ (mixKind X.prog X.w).is c k = true
  | _, _, .nil => ⟨[], [], .nil, rfl, rfl, fun j k v e => nomatch e⟩
  | _, _, .cons (a := p) (b := kv) h t => by
    obtain ⟨prs, pvs, r, l1, l2, g⟩ := prs_of I t
    obtain ⟨its, rv, ht, _⟩ := I.tuple h
    obtain ⟨u, y, rfl, ru, ry⟩ := vals2 rv
    refine ⟨(kv.1, y) :: prs, (u, y) :: pvs, .cons ⟨rfl, ry⟩ r, by rw [List.length_cons, List.length_cons, l1], by rw [List.length_cons, List.length_cons, l2], fun j k v e => ?_⟩
    rcases j with _ | j
    · cases e
      exact ⟨p, kv.1, rfl, ht, rfl, kV_is ru⟩
    · obtain ⟨b, c, e1, e2, e3, e4⟩ := g j k v e
      exact ⟨b, c, e1, e2, e3, e4⟩
/-- dict(x): of a dict, of a list or a tuple of pairs -/
@[irreducible] def rDictU (K : PySem.W.Frag) : List V → Hp → VK → Prop := fun xs H Q => ∃ a, xs = [.ref a] ∧ (
  (∃ kvs, Rd H a (.dK kvs) ∧ ∀ p, H p = none → Q (.ref p) (upd H p (.dK kvs))) ∨
  (∃ (ps : List Addr) (kvs : List (L2.Key × V)), SqL K H a (ps.map V.ref) ∧ Paired (fun p kv => SqT K H p [kV kv.1, kv.2]) ps kvs ∧ ∀ p, H p = none → Q (.ref p) (upd H p (.dK (mergeK [] kvs)))) ∨
  ∃ (ps : List Addr) (kvs : List (L2.Key × V)), PTup K H a (ps.map V.ref) ∧ Paired (fun p kv => SqT K H p [kV kv.1, kv.2]) ps kvs ∧ ∀ p, H p = none → Q (.ref p) (upd H p (.dK (mergeK [] kvs))))
theorem u_dict (hc : X.calm = true) : CallR X (.type "dict") (rDictU X.K) := by
  intro pins s σ H xs us Q I r h
  unfold rDictU at h
  obtain ⟨a, rfl, h⟩ := h
  rcases h with ⟨kvs, hr, q⟩ | ⟨ps, kvs, hl, hp, q⟩ | ⟨ps, kvs, ht, hp, q⟩
  · obtain ⟨u, rfl, rx⟩ := vals1 r
    cases rx
    exact d_copyOf I hr fun p s' n I' => ⟨.ref p, _, I', rfl, q p n⟩
  · exact call_dictP hc pins s σ H _ us Q I r ⟨a, ps, kvs, rfl, hl, hp, q⟩
  · obtain ⟨u, rfl, rx⟩ := vals1 r
    cases rx
    obtain ⟨its, n, sl, rv, z, e⟩ := PTup.at_ I ht
    have ei := refs_at rv
    subst ei
    obtain ⟨prs, pvs, rel, l1, l2, g⟩ := prs_of I hp
    rw [List.length_map] at z
    refine PySem.call_dict_pairs (knd := mixKind X.prog X.w) (kvs := prs) (PySem.PairArg.tuple a (ps.map Value.ref).toArray (fun j => (ps[j]?).getD 0) pvs) (I.ok.hd hc) ⟨⟨_, n, e, rfl, rfl, rfl⟩, by simp [l2], fun j k v ej => ?_⟩ ⟨by rw [l1, l2], fun j k v ej => ?_⟩ (by rw [l2]; exact z) fun h' tk hd' k => ?_
    · obtain ⟨b, c, e1, e2, e3, e4⟩ := g j k v ej
      exact ⟨by simp [e1], .inl (by show s.heap.IsTuple ((ps[j]?).getD 0) _; rw [e1]; exact e2)⟩
    · obtain ⟨b, c, e1, e2, e3, e4⟩ := g j k v ej
      exact ⟨c, e3, e4⟩
    · have hm : (s.heap.objs.size == sysModules) = false := beq_eq_false_iff_ne.mpr (Nat.ne_of_gt I.big)
      have hz : (mergeK [] kvs).length ≤ sizeLine := by
        refine Nat.le_trans (length_mergeK kvs []) ?_
        rw [List.length_nil, Nat.zero_add, rel.length, l1]
        exact z
      exact ⟨.ref s.heap.objs.size, upd H s.heap.objs.size (.dK (mergeK [] kvs)), I.laid (t' := tk) (fun b o e => k b o List.not_mem_nil e) (Nat.le_refl _) (show ObjOk X.prog X.w _ _ _ (.dK (mergeK [] kvs)) from ⟨hz, hm, merged [] prs, KV.merge rel .nil, hd'⟩), rfl, q _ (I.hok.fresh (Nat.le_refl _))⟩
/-- d.clear() -/
def rDClr : V → List V → Hp → VK → Prop := fun x xs H Q => ∃ a kvs, x = .ref a ∧ xs = [] ∧ H a = some (.dK kvs) ∧ Q .non (upd H a (.dK []))
theorem mt_dclear : MtR X "dict.clear" rDClr := by
  intro pins s σ H x xs v us Q I rx rxs h
  obtain ⟨a, kvs, rfl, rfl, ha, q⟩ := h
  cases rx
  cases rxs
  obtain ⟨z, hd, vs, rel, dd⟩ := dk_of I.hok ha
  refine call_meetsIn PySem.F.slot_dict_clear dd.typeIs PySem.F.entry_dict_clear (PySem.F.args_dict_clear_1 _) (meets_dict_clear (knd := mixKind X.prog X.w) a) ⟨vs, dd, by rw [← rel.length]; exact z, fun h' dd' hs => ?_⟩
  have he : ∃ o, h'.get? a = some o := let ⟨o, _, _, ho, _⟩ := dd'; ⟨o, ho⟩
  exact ⟨.non, _, d_write (t' := s.toks) I (by rw [ha]; exact True.intro) hs he (dk_new (Nat.zero_le _) hd .nil dd'), rfl, q⟩
end
end Kb
/-! ### tuple(d.items()) -/
namespace Kb
open PySem PySem.Spec PyProof.Rows L2
section
variable {prog : Program} {w : World} {KT : Type} [DecidableEq KT] {knd : KeyKind prog w KT} {A : Around} {E : Value → Shared → Prop} {s : Shared} {r d : Addr} {kvs : List (KT × Value)} {ep : Nat}
/-- what a dict's items are when they have been gone through -/
def Got (knd : KeyKind prog w KT) (kvs : List (KT × Value)) (s : Shared) (h' : Heap) (acc : Array Value) (as : List Addr) : Prop :=
  (∀ b o, s.heap.get? b = some o → h'.get? b = some o) ∧ (∃ c, h'.get? s.heap.objs.size = some { cls := .type "list", dict := none, data := .seq acc c, slots := #[] }) ∧ as.length = kvs.length ∧ PySem.W.KdxG knd kvs s.heap.objs.size h' as ∧ acc.toList = as.map Value.ref
theorem collect_items {Q : List Value → Shared → Prop} (hh : A.handled = none) (hv : s.heap.IsItemsView r d) (hm : s.heap.DictAt knd d kvs ep) (hn : kvs.length ≤ sizeLine)
    (q : ∀ (h' : Heap) (tk : Nat) (acc : Array Value) (as : List Addr), Got knd kvs s h' acc as → Q acc.toList { s with heap := h', toks := tk }) : wpAny (model prog w) A (collect (.ref r)) Q E s := by
  have hr : r < s.heap.objs.size := let ⟨_, ho, _⟩ := hv; Heap.lt_size ho
  have hd : d < s.heap.objs.size := hm.lt_size
  unfold collect
  refine wpAny_bind (wpAny_runValue (codeAny_builtin PySem.F.entry_proto_collect ?_))
  rw [Around.under_plainId PySem.F.plain_proto_collect _]
  show wpAny _ A.in1 (newList [] >>= fun l => again (.builtin "list.__iadd__" ⟨[l, .ref r], []⟩)) _ _ _
  refine wpAny_bind (wpAny_newObj_type ?_)
  refine wpAny_pure ⟨plainId_quiet PySem.F.plain_list_iadd _, codeAny_builtin PySem.F.entry_list_iadd ?_⟩
  rw [Around.under_plainId PySem.F.plain_list_iadd _]
  show wpAny _ A.in1 (Builtin.List.listExtendWith (.ref s.heap.objs.size) (.ref r) (.ref s.heap.objs.size)) _ _ _
  have hS : (s.heap.push { cls := .type "list", data := .seq ([] : List Value).toArray }).get? s.heap.objs.size = some { cls := .type "list", data := .seq #[] 0 } := Heap.get?_push_size _ rfl
  refine wpAny_mono (PySem.W.kdx_extend (knd := knd) (kvs := kvs) (ep := ep) (A := A) (R := fun rr s' => rr = .ok (.ret (.ref s.heap.objs.size)) ∧ ∃ (h' : Heap) (tk : Nat) (acc : Array Value) (as : List Addr), s' = { s with heap := h', toks := tk } ∧ Got knd kvs s h' acc as)
    (s := { s with heap := s.heap.push { cls := .type "list", data := .seq ([] : List Value).toArray } }) hh (let ⟨o, ho, x⟩ := hv; ⟨o, Heap.get?_push_of_some _ ho, x⟩) (hm.push _) _ (Nat.ne_of_gt hr) (Nat.ne_of_lt hd) _ 0 hS
    (fun h' tk acc c as hk hS' hl hG hacc => ⟨rfl, h', tk, acc, as, rfl, fun b o e => hk b o (Nat.ne_of_lt (Heap.lt_size e)) (Heap.get?_push_of_some _ e), ⟨c, hS'⟩, hl, hG.low (Nat.le_of_lt (Heap.lt_size hS)), hacc⟩) hn) (fun fin s' z => ?_) fun e s' z => ?_
  · cases fin with
    | done f =>
      obtain ⟨e, h', tk, acc, as, rfl, g⟩ := z
      cases e
      show wpAny _ A (load s.heap.objs.size >>= _) _ _ _
      obtain ⟨c, hS'⟩ := g.2.1
      exact wpAny_bind (wpAny_load hS' (wpAny_pure (q h' tk acc as g)))
    | again c' =>
      refine ⟨z.1, codeAny_mono z.2 fun rr s2 z2 => ?_⟩
      obtain ⟨rfl, h', tk, acc, as, rfl, g⟩ := z2
      show wpAny _ A (load s.heap.objs.size >>= _) _ _ _
      obtain ⟨c, hS'⟩ := g.2.1
      exact wpAny_bind (wpAny_load hS' (wpAny_pure (q h' tk acc as g)))
  · exact absurd z.1 (by simp)
theorem call_tuple_items {Q : Value → Shared → Prop} (hh : A.handled = none) (hv : s.heap.IsItemsView r d) (hm : s.heap.DictAt knd d kvs ep) (hn : kvs.length ≤ sizeLine)
    (q : ∀ (h' : Heap) (tk : Nat) (acc : Array Value) (as : List Addr), Got knd kvs s h' acc as → Q (.ref h'.objs.size) { s with heap := h'.push { cls := .type "tuple", data := .seq acc }, toks := tk }) : wpAny (model prog w) A (call (.type "tuple") [.ref r]) Q E s := by
  have code : codeAny (model prog w) A.in1 (.call (.builtin "tuple.__new__") ⟨[.type "tuple", .ref r], []⟩) (wants (fun obj s₁ => s₁.TypeIs obj "tuple" ∧ Q obj s₁) E) s := by
    refine codeAny_of_tree ?_
    show wpAny _ A.in1.in1 (do checkBuiltinCall "tuple.__new__" ⟨[.type "tuple", .ref r], []⟩; again (.builtin "tuple.__new__" ⟨[.type "tuple", .ref r], []⟩)) _ _ s
    refine wpAny_bind (wpAny_of_eq (PySem.F.newCall_tuple_1 _) (wpAny_pure ⟨plainId_quiet PySem.F.plain_tuple_new _, codeAny_builtin PySem.F.entry_tuple_new ?_⟩))
    rw [Around.under_plainId PySem.F.plain_tuple_new _]
    have hsub := sub_tuple_self
    have hinit := init_tuple_lookup
    have hmh := madeHere_tuple
    have hTI : s.TypeIs (.ref r) "dict_items" := hv.typeIs
    wp_walk using wpAny_typeOf hTI, collect_items (knd := knd) (kvs := kvs) (ep := ep) (A := A.in1.in1) hh hv hm hn
    intro h' tk acc as g
    show wpAny _ _ (Builtin.Tuple.tupleExact acc.toList.toArray >>= fun v => ret v) _ _ _
    unfold Builtin.Tuple.tupleExact
    have ea : acc.toList.toArray = acc := by simp
    have el : acc.size = kvs.length := by
      have := congrArg List.length g.2.2.2.2
      rw [List.length_map, g.2.2.1] at this
      simpa using this
    refine wpAny_bind (wpAny_newObj_type ?_ (by show acc.toList.toArray.size ≤ sizeLine; rw [ea, el]; exact hn))
    refine wpAny_pure ?_
    rw [ea]
    exact ⟨⟨_, Heap.get?_push_size _ rfl, rfl⟩, q h' tk acc as g⟩
  refine callType_codes (Q₁ := fun obj s₁ => s₁.TypeIs obj "tuple" ∧ Q obj s₁) PySem.F.called_tuple (PySem.F.typeCall_tuple_1 _) PySem.F.entry_object_init code fun obj s₁ h₁ => ?_
  exact ⟨h₁.1, PySem.F.args_object_init_2 obj _, object_init_meets PySem.F.called_tuple.init.lookup PySem.F.called_tuple.made (by decide) prog w A.in1 _ s₁ ⟨h₁.1, rfl, h₁.2⟩⟩
end
end Kb
namespace Kb
open PySem PySem.Spec PyProof.Rows L2
theorem paired_imp {α β : Type} {F G : α → β → Prop} (h : ∀ a b, F a b → G a b) : ∀ {xs : List α} {ys : List β}, Paired F xs ys → Paired G xs ys
  | _, _, .nil => .nil
  | _, _, .cons r t => .cons (h _ _ r) (paired_imp h t)
/-- the items of the dict d, laid as pairs -/
def rItemsT (x : V) (H : Hp) (Q : VK) : Prop := ∃ (d : Addr) (kvs : List (L2.Key × V)), x = .ref d ∧ H d = some (.dK kvs) ∧
  ∀ (H' : Hp) (p : Addr) (ts : List Addr), (∀ b o, H b = some o → H' b = some o) → H p = none → H' p = some (ptup p (ts.map V.ref)) → Paired (fun (t : Addr) (q : L2.Key × V) => H' t = some (.tup [kV q.1, q.2])) ts kvs → Q (.ref p) H'
def tTupItems (te : TE) : TE := fun σ H Q => te σ H fun x H1 => rItemsT x H1 Q
theorem pe_tupItems {X : Cx} {e : Expr} {te : TE} {p apos cpos pos : Pos} (hc : X.calm = true) (he : PE X e te) (hg : Gl X "tuple") (hm : X.mg "tuple" = none) (hbase : attributeBase e "items" X.env (eval e X.env) = eval e X.env := by rfl) (hline : (apos.endLine == cpos.line) = true := by rfl)
    (hs : starEach [.Call (.Attribute e "items" apos) [] [] cpos] X.env = (false, eval (.Call (.Attribute e "items" apos) [] [] cpos) X.env) :: starEach [] X.env := by rfl) :
    PE X (.Call (.Name "tuple" p) [.Call (.Attribute e "items" apos) [] [] cpos] [] pos) (tTupItems te) := by
  refine ⟨fun pins s σ H Q I hq => ?_⟩
  refine wpAny_Call_Name_kw (ld_blt I hg hm boot_tuple (PyProof.Rows.callWith_type1 ?_ hs rfl))
  rw [hs]
  refine Calls.spliced_cons (wpAny_Call_method (T := "dict") (id := "dict.items") hbase rfl hline PySem.F.plainAttrs_dict PySem.F.slot_dict_items PySem.F.type_dict_items (thn (he.run pins s σ H _ I hq) fun u s1 ⟨x, H1, I1, rx, d, kvs, ex, hd, q⟩ => ?_))
  subst ex
  obtain rfl : u = Value.ref d := rx
  obtain ⟨hz, h0, vs, kv, dd⟩ := I1.hok d _ hd
  obtain ⟨ep, da⟩ := dd.dictAt
  have lk : kvs.length = vs.length := Paired.length kv
  have I2 : Inv X pins σ H1 { s1 with heap := s1.heap.push { cls := .type "dict_items", data := .fields #[.ref d] } } := I1.kept (t' := s1.toks) fun b o q => Heap.get?_push_of_some _ q
  refine ⟨dd.typeIs, dd.mapOf.noDict, ?_⟩
  show wpAny _ _ (callWith cpos (.builtin "dict.items") [.ref d] [] []) _ _ s1
  refine method_meetsIn PySem.F.slot_dict_items PySem.F.entry_dict_items rfl (PySem.evalArgs_none ⟨rfl, dd.typeIs, PySem.F.args_dict_items_1 _, _, meets_dict_items (mixKind X.prog X.w) d h0, ⟨vs, dd⟩, ?_⟩)
  refine Calls.spliced_nil (call_tuple_items (knd := mixKind X.prog X.w) (kvs := vs) (ep := ep) (I1.ok.hd hc) ⟨_, Heap.get?_push_size _ rfl, rfl, rfl⟩ (da.push _) (by omega) fun h' tk acc as g => ?_)
  obtain ⟨hk, ⟨c, hS⟩, hl, hG, hacc⟩ := g
  obtain ⟨H', k1, k2, k3, k4, k5, k6, J⟩ := LiI.items_laid (tk := tk) I2 hz kv hk hS hl hG hacc
  have nT : H' h'.objs.size = none := J.hok.fresh (Nat.le_refl _)
  have up : ∀ b o, H' b = some o → upd H' h'.objs.size (ptup h'.objs.size (as.map V.ref)) b = some o := fun b o e => (upd_ne (ne_of_none e nT)).trans e
  have eT : (h'.push { cls := .type "tuple", data := .seq acc }).get? h'.objs.size = some ({ cls := .type "tuple", data := .seq acc } : Obj) := Heap.get?_push_size _ rfl
  refine ⟨.ref h'.objs.size, _, J.laid (t' := tk) (a := h'.objs.size) (o := ptup h'.objs.size (as.map V.ref)) (fun b o e => Heap.get?_push_of_some _ e) (Nat.le_refl _) ⟨⟨by rw [List.length_map]; omega, acc.toList, 0, #[], by rw [hacc]; exact LiI.vals_refs as, by rw [Array.toArray_toList]; exact eT⟩, ⟨_, eT⟩, fun h1 h2 ⟨z, its, n, sl, r, e⟩ st => ⟨z, its, n, sl, r, st _ e⟩⟩, rfl,
    q _ _ as (fun b o e => up b o (k1 b o e)) ?_ upd_same (paired_imp (fun t p z => up t _ z) k6)⟩
  cases z : H1 h'.objs.size with
  | none => rfl
  | some o =>
    rw [k1 _ _ z] at nT
    cases nT
end Kb

/-! ### own classes: __init__ with defaults, made by place and by name; a method called by names -/
namespace Kb
open PySem PySem.Spec PyProof.Rows L2
/-- the __init__ of the class at C, its defaults dvs -/
def DefD (K : PySem.W.Frag) (C : Addr) (st : Stmt) (qual : Str) (dvs : List V) : Prop := ∃ f fd, Meth K C "__init__" f ∧ FunD K "__init__" qual (defArgs st) (defBody st) (defScope st) dvs [] f fd
structure CalD (P : Program) (w : World) (K : PySem.W.Frag) (mg : Str → Option Value) (base : Heap) (CX : CXT) (k : Nat) (C : Addr) (st : Stmt) (qual : Str) (dvs : List V) (ps : List Str) (sp : Sp) : Prop where
  ex : ∃ f fd, Meth K C "__init__" f ∧ FnOk P w K mg base CX k f fd ps sp ∧ FunD K "__init__" qual (defArgs st) (defBody st) (defScope st) dvs [] f fd
theorem CalD.of {P : Program} {w : World} {K : PySem.W.Frag} {mg : Str → Option Value} {base : Heap} {C : Addr} {qual : Str} {st : Stmt} {dvs : List V} {N ps : List Str} {k : Nat} {sp : Sp} (D : DefD K C st qual dvs) (S : FnScope N ps (defScope st)) (len : ∀ vs H Q E, sp vs H Q E → vs.length = ps.length)
    (hbody : ∀ (f : Addr) (cdv : Value) (A : Around) (outer : List Env) (s : Shared) (H : Hp) (vs : List V) (Q : VK) (E : XK), Room k (A.deeper (envOfC qual (defScope st) s.heap.objs.size f cdv)) → sp vs H Q E →
      ∃ t, PSs (cxOf CX0 P w K mg base N qual (defScope st) f cdv A outer s H E) (defBody st) t ∧ t { nx := fun _ H' => Q .non H', rt := Q } (start N vs) H) : CalD P w K mg base CX0 (k + 1) C st qual dvs ps sp := by
  obtain ⟨f, fd, hm, F⟩ := D
  exact ⟨f, fd, hm, F.ok S len (hbody f), F⟩
/-- how a call with n things by place and some by name (ks) puts them: g -/
def Puts (st : Stmt) (qual : Str) (ps : List Str) (dn n : Nat) (ks : List Str) (g : {α : Type} → List α → List α → List α → List α) : Prop :=
  ∀ (T : Addr) (kV doc pm : Value) (an : Option Addr) (cdv ct : Value) (us its ws : List Value), us.length = n → its.length = dn → ws.length = ks.length →
    ∃ k, bindArgs (PySem.W.fnOf "__init__" qual (defArgs st) (defBody st) (defScope st) (.ref T) kV doc pm an cdv ct) ⟨us, ks.zip ws⟩ = seqItems? (.ref T) >>= k ∧ k (some its.toArray) = pure (ps.zip (g us its ws))
def Keeps3 (g : {α : Type} → List α → List α → List α → List α) : Prop := ∀ {vs ds zs : List V} {us its ws : List Value}, Vals vs us → Vals ds its → Vals zs ws → Vals (g vs ds zs) (g us its ws)
section
variable {X : Cx} {CX : CXT} {k n : Nat} {C : Addr} {st : Stmt} {qual : Str} {dvs : List V} {ps ks : List Str} {sp : Sp} {E : XK} {x : Str} {p pos : Pos} {e : Expr} {es : List Expr} {kws : List Keyword} {t tk : TA}
theorem pe_makeD (g : {α : Type} → List α → List α → List α → List α) (hmk : PySem.W.makesIn X.K C = true) (hkc : PySem.W.keepIn X.K (.ref C) = true) (M : CalD X.prog X.w X.K X.mg X.base CX k C st qual dvs ps sp) (hd : dvs ≠ []) (hrel : Keeps3 g) (hp : Puts st qual ps dvs.length (n + 1) ks g)
    (hr : Room (k + 1) X.A) (hg : Gl X x) (hm : X.mg x = some (.ref C)) (hx : Passes CX X E) (ha : PA X (e :: es) t) (hkw : PK X kws tk) (hall : (backToKw pos (keywordEach kws X.env)).all (·.1.isSome) = true := by rfl) (hks : (backToKw pos (keywordEach kws X.env)).filterMap (·.1) = ks := by rfl)
    (hdb : (x == ("__debug__" : Str)) = false := by decide) (he : starEach (e :: es) X.env = (false, eval e X.env) :: starEach es X.env := by rfl) (hpl : ((backTo pos (starEach (e :: es) X.env)).any (·.1) || (backToKw pos (keywordEach kws X.env)).any (·.1.isNone)) = false := by rfl) :
    PE X (.Call (.Name x p) (e :: es) kws pos) (tMakeN C n ks.length sp (fun vs zs => g vs dvs zs) E t tk) := by
  obtain ⟨f, fd, me, F, D⟩ := M.ex
  obtain ⟨its, hb⟩ := D.kbindsD (ps := ps) (n + 1) ks g hd hrel hp
  exact pe_makeN ⟨hmk, me.at_, me.fn, hkc⟩ F hr hg hm hb hx ha hkw hall hks hdb he hpl
theorem pe_makeD0 (g : {α : Type} → List α → List α → List α → List α) (hmk : PySem.W.makesIn X.K C = true) (hkc : PySem.W.keepIn X.K (.ref C) = true) (M : CalD X.prog X.w X.K X.mg X.base CX k C st qual dvs ps sp) (hd : dvs ≠ []) (hrel : Keeps3 g) (hp : Puts st qual ps dvs.length 1 ks g)
    (hr : Room (k + 1) X.A) (hg : Gl X x) (hm : X.mg x = some (.ref C)) (hx : Passes CX X E) (hkw : PK X kws tk) (hall : (backToKw pos (keywordEach kws X.env)).all (·.1.isSome) = true := by rfl) (hks : (backToKw pos (keywordEach kws X.env)).filterMap (·.1) = ks := by rfl)
    (hdb : (x == ("__debug__" : Str)) = false := by decide) (hpl : ((backTo pos (starEach [] X.env)).any (·.1) || (backToKw pos (keywordEach kws X.env)).any (·.1.isNone)) = false := by rfl) :
    PE X (.Call (.Name x p) [] kws pos) (tMakeN C 0 ks.length sp (fun vs zs => g vs dvs zs) E tNil tk) := by
  obtain ⟨f, fd, me, F, D⟩ := M.ex
  obtain ⟨its, hb⟩ := D.kbindsD (ps := ps) 1 ks g hd hrel hp
  exact pe_makeK0 ⟨hmk, me.at_, me.fn, hkc⟩ F hr hg hm hb hx hkw hall hks hdb hpl
end
/-- o.m(a = .., b = ..), all by name -/
def tMethK (C : Addr) (m : Str) (n : Nat) (sp : Sp) (gV : List V → List V → List V) (E : XK) (ta : TE) (tk : TA) : TE := fun σ H Q => ta σ H fun x H1 => rRcvU C m x H1 (tk σ H1 fun zs H2 => zs.length = n ∧ sp (gV [x] zs) H2 Q E)
/-- a method, told with its text -/
structure CalF (P : Program) (w : World) (K : PySem.W.Frag) (mg : Str → Option Value) (base : Heap) (CX : CXT) (k : Nat) (C : Addr) (st : Stmt) (m qual : Str) (ps : List Str) (sp : Sp) : Prop where
  ex : ∃ f fd, Meth K C m f ∧ FnOk P w K mg base CX k f fd ps sp ∧ Fun K m qual st f fd
section
variable {P : Program} {w : World} {K : PySem.W.Frag} {mg : Str → Option Value} {base : Heap} {C : Addr} {m qual : Str} {st : Stmt} {N ps : List Str} {k : Nat} {sp : Sp}
theorem CalF.of (D : DefM K C st m qual) (S : FnScope N ps (defScope st)) (len : ∀ vs H Q E, sp vs H Q E → vs.length = ps.length)
    (hbody : ∀ (f : Addr) (cdv : Value) (A : Around) (outer : List Env) (s : Shared) (H : Hp) (vs : List V) (Q : VK) (E : XK), Room k (A.deeper (envOfC qual (defScope st) s.heap.objs.size f cdv)) → sp vs H Q E →
      ∃ t, PSs (cxOf CX0 P w K mg base N qual (defScope st) f cdv A outer s H E).nox (defBody st) t ∧ t { nx := fun _ H' => Q .non H', rt := Q } (start N vs) H) : CalF P w K mg base CX0 (k + 1) C st m qual ps sp := by
  obtain ⟨f, fd, hm, F⟩ := D
  exact ⟨f, fd, hm, F.ok S len (hbody f), F⟩
theorem CalF.calM {CX : CXT} (M : CalF P w K mg base CX k C st m qual ps sp) (hb : ∀ (kV doc pm : Value) (an : Option Addr) (cdv ct : Value) (us : List Value), us.length = ps.length → bindArgs (PySem.W.fnOf m qual (defArgs st) (defBody st) (defScope st) .none kV doc pm an cdv ct) ⟨us, []⟩ = pure (ps.zip us)) : CalM P w K mg base CX k C m ps sp := by
  obtain ⟨f, fd, hm, F, D⟩ := M.ex
  exact ⟨f, fd, hm, F, D.binds hb⟩
end
theorem pe_methK {X : Cx} {CX : CXT} {k : Nat} {C : Addr} {st : Stmt} {ps ks : List Str} {sp : Sp} {E : XK} {m qual : Str} {pos apos : Pos} {o : Expr} {kws : List Keyword} {ta : TE} {tk : TA} {pl : Sem Bool} (g : {α : Type} → List α → List α → List α) (he : PE X o ta) (c : Cls X.K C) (M : CalF X.prog X.w X.K X.mg X.base CX k C st m qual ps sp)
    (hrel : ∀ {vs zs : List V} {us ws : List Value}, Vals vs us → Vals zs ws → Vals (g vs zs) (g us ws))
    (hp : ∀ (kV doc pm : Value) (an : Option Addr) (cdv ct : Value) (us ws : List Value), us.length = 1 → ws.length = ks.length → bindArgs (PySem.W.fnOf m qual (defArgs st) (defBody st) (defScope st) .none kV doc pm an cdv ct) ⟨us, ks.zip ws⟩ = pure (ps.zip (g us ws)))
    (hr : Room k X.A) (hx : Passes CX X E) (hkw : PK X kws tk) (hall : (backToKw pos (keywordEach kws X.env)).all (·.1.isSome) = true := by rfl) (hks : (backToKw pos (keywordEach kws X.env)).filterMap (·.1) = ks := by rfl)
    (hpl : ((backTo pos (starEach [] X.env)).any (·.1) || (backToKw pos (keywordEach kws X.env)).any (·.1.isNone)) = false := by rfl)
    (ht : eval (.Call (.Attribute o m apos) [] kws pos) X.env = (do
      let ov ← eval o X.env
      standAt apos.atName
      let (f, first) ← holding [ov] (getMethod ov m pl)
      callWith pos f first (backTo pos (starEach [] X.env)) (backToKw pos (keywordEach kws X.env))) := by rfl) :
    PE X (.Call (.Attribute o m apos) [] kws pos) (tMethK C m ks.length sp (fun vs zs => g vs zs) E ta tk) := by
  obtain ⟨f, fd, hm, F, F'⟩ := M.ex
  refine ⟨fun pins s σ H Q I h => ?_⟩
  unfold tMethK rRcvU at h
  refine PySem.W.methodCall_KW (pl := pl) (thn (he.run pins s σ H _ I h) fun u s1 ⟨x, H1, I1, rx, a, dx, fs, ex, ea, l, q⟩ => ?_) ht
  subst ex
  obtain rfl : u = Value.ref a := rx
  refine getmeth_ok I1 ea c hm l ?_
  refine PySem.W.callWith_KW0 (first := [.ref a]) (h₀ := X.base) I.ok.mod.kin hm.kp hall (thn (hkw.run pos pins s1 σ H1 _ I1 q) fun ws s2 ⟨zs, H2, I2, rz, l2, q2⟩ => ⟨I2.kIn, ?_⟩) hpl
  rw [hks]
  have hb : KBn X.K fd ps 1 ks (fun us ws => g us ws) (fun vs zs => g vs zs) := by
    obtain ⟨oc, od, kV, doc, pm, an, cdv, ct, osl, rfl, lk, hcd⟩ := F'.ex
    exact ⟨fun s us ws _ l1 l2 => .of_eq (hp kV doc pm an cdv ct us ws l1 l2), fun r1 r2 => hrel r1 r2⟩
  exact run_fnN (us := [.ref a]) (vs := [.ref a]) F hr hb hx I2 (.cons rfl .nil) rz rfl l2 q2
end Kb
/-! ### a thing of an own class is equal to itself -/
namespace Kb
open PySem PySem.Spec PyProof.Rows L2
section
variable {M : Model} {prog : Program} {w : World} {A : Around} {E : Value → Shared → Prop} {s : Shared} {K : PySem.W.Frag} {x C : Addr} {ox : Obj} {od : Option Obj}
theorem same_ref {R : Bool → Shared → Prop} (h : R true s) : wpAny M A (isSame (.ref x) (.ref x)) R E s := wpAny_of_eq (show isSame (.ref x) (.ref x) = pure true by simp [isSame]) h
theorem entry_same {Q : Fin → Shared → Prop} (q : Q (.done (.ret (.bool true))) s) : wpAny M A (Builtin.«object.__eq__» ⟨[.ref x, .ref x], []⟩) Q E s := by
  unfold Builtin.«object.__eq__»
  repeat (first | (with_reducible refine same_ref ?_) | wp_step)
  exact q
/-- == of the class at C is the one by identity -/
structure PlainEq (K : PySem.W.Frag) (C : Addr) : Prop where
  mro : PySem.W.mroIn K C (.type "object") = some true
  eq : PySem.W.findIn K (.ref C) "__eq__" = some (some (.builtin "object.__eq__"))
theorem rc_same (p : PlainEq K C) (hu : A.units < cLine) (X : K.In s.heap) (I : PySem.W.InstAt s.heap x ox C od) {Q : Value → Shared → Prop} (q : Q (.bool true) s) : wpAny (model prog w) A (richCompare .Eq (.ref x) (.ref x)) Q E s := by
  have one : wpAny (model prog w) A (tryCompare (.ref x) "__eq__" (.ref x)) (fun r s' => r = some (.bool true) ∧ s' = s) E s := by
    unfold tryCompare
    refine wpAny_bind (HN.ifBound_objEq X I p.eq (wpAny_call (codeAny_call_builtin F.cmp_object.eq.plain F.cmpEntry_eq (PySem.W.check_slot F.cmpKind_eq F.cmpSplit_eq (I.type.andThen (PySem.W.looks_mroIn X p.mro)) (F.cmpArgs_eq _ _) (entry_same ?_)))))
    exact wpAny_pure ⟨rfl, rfl⟩
  simp only [richCompare, cmpInfo_Eq, oneThing_ref]
  refine wpAny_holding (wpAny_bind (wpAny_cRoomFor hu (wpAny_bind (I.type.here (wpAny_bind (I.type.here ?_))))))
  simp only [bne_self_eq_false, Bool.false_eq_true, if_false, pure_bind]
  refine wpAny_bind (wpAny_mono one (fun r s1 z => ?_) fun _ _ e => e)
  obtain ⟨rfl, rfl⟩ := z
  exact wpAny_pure q
end
def rEqS (K : PySem.W.Frag) : R2 := fun x y H Q => rEqU K x y H Q ∨ ∃ a C dx fs, x = .ref a ∧ y = .ref a ∧ H a = some (.ins C dx fs) ∧ PlainEq K C ∧ Q (.bl true) H
theorem u_eqS {X : Cx} (hu : X.A.units + 64 < cLine) : OpR X (compareOp .Eq) (rEqS X.K) := by
  intro pins s σ H x y v u Q I rx ry h
  rcases h with h | ⟨a, C, dx, fs, rfl, rfl, ha, p, q⟩
  · exact u_eq hu pins s σ H x y v u Q I rx ry h
  · cases rx
    cases ry
    obtain ⟨mA, O, _⟩ := ins_get I.hok ha
    obtain ⟨od, J, _⟩ := O.look
    exact rc_same p (by omega) I.kIn J ⟨.bl true, H, I, rfl, q⟩
end Kb

/-! ### enumerate(d): the keys of a locked dict, counted from nought -/
namespace Kb
open PySem PySem.Spec PyProof.Rows L2
section
variable {prog : Program} {w : World} {A : Around} {E : Value → Shared → Prop} {s : Shared} {it d : Addr} {i n ep : Nat} {od : Obj} {es : Array DictEntry}
theorem nextOf_key {en : DictEntry} {Q : Value → Shared → Prop} (hit : s.heap.IsKeyIter it d i n ep) (hod : s.heap.get? d = some od) (hdd : od.data = .dict es ep) (hsz : es.size = n) (hx : es[i]? = some en)
    (q : ∀ h', h'.IsKeyIter it d (i + 1) n ep → Heap.SameBut it s.heap h' → Q en.key { s with heap := h' }) : wpAny (model prog w) A (Builtin.SmallTypes.nextOf (.ref it)) Q E s := by
  obtain ⟨oi, hi, ci, di⟩ := id hit
  have nx := F.slot_dict_keyiterator_next
  unfold Builtin.SmallTypes.nextOf
  refine wpAny_bind (wpAny_callSpecial?_slot (name := Str.ofString "__next__") hit.typeIs nx (wpAny_call_entry nx hit.typeIs F.entry_dict_keyiterator_next ?_ (F.args_dict_keyiterator_next_1 _)))
  obtain ⟨lt, rfl⟩ := Array.getElem?_eq_some_iff.mp hx
  have own : Builtin.Dict_items.ownsTuple "dict_keyiterator" = false := by decide
  refine wpAny_bind (wpAny_pure (wpAny_bind (wpAny_bind ?_)))
  first | refine wpAny_bind (wpAny_typeNameOfWhole_keyiter hit.typeIs (wpAny_pure (wpAny_bind (wpAny_fieldsOf hi di ?_)))) | refine wpAny_bind (wpAny_typeNameOf_keyiter hit.typeIs (wpAny_pure (wpAny_bind (wpAny_fieldsOf hi di ?_))))
  rw [own]
  simp only [Bool.false_eq_true, if_false]
  show wpAny _ _ (if (Value.ref d == Value.none) = true then _ else _) _ _ _
  have nn : ¬ ((Value.ref d == Value.none) = true) := Bool.false_ne_true
  rw [if_neg nn]
  refine wpAny_bind (wpAny_pure (wpAny_bind (wpAny_dictEntries hod hdd ?_)))
  rw [if_neg (by simp [hsz])]
  refine wpAny_bind (wpAny_pure (wpAny_bind (wpAny_dictEpoch hod hdd ?_)))
  rw [if_neg (by simp)]
  refine wpAny_pure ?_
  have h0 : ¬ ((i : Int) < 0) := by omega
  simp only [h0, if_false, Int.toNat_natCast, Array.getElem?_eq_getElem lt]
  refine wpAny_bind ?_
  first | refine wpAny_bind (wpAny_typeNameOfWhole_keyiter hit.typeIs (wpAny_pure (wpAny_bind (wpAny_isOneOf_keyiter hit.typeIs ?_)))) | refine wpAny_bind (wpAny_typeNameOf_keyiter hit.typeIs (wpAny_pure (wpAny_bind (wpAny_isOneOf_keyiter hit.typeIs ?_))))
  show wpAny _ _ (setField (.ref it) 1 (rawInt ((i : Int) + 1)) >>= _) _ _ _
  refine wpAny_bind (wpAny_setField hi di (by simp) ?_)
  have st : (s.heap.update it (Obj.mapFields (·.setIfInBounds 1 (rawInt ((i : Int) + 1))))).IsKeyIter it d (i + 1) n ep := ⟨_, Heap.get?_update_self _ hi (Obj.isFreed_of_fields (Obj.data_mapFields di _)), (Obj.cls_mapFields ..).trans ci, by rw [Obj.data_mapFields di]; simp [rawInt]⟩
  refine wpAny_bind (wpAny_holding (wpAny_bind (wpAny_isOneOf_keyiter (s := { s with heap := s.heap.update it (Obj.mapFields (·.setIfInBounds 1 (rawInt ((i : Int) + 1)))) }) st.typeIs ?_)))
  show wpAny _ _ (pure _) _ _ _
  exact wpAny_pure (wpAny_pure ⟨_, rfl, wpAny_pure (q _ st (Heap.SameBut.update ..))⟩)
theorem nextOf_key_end {Q : Value → Shared → Prop} (hh : A.handled = none) (hit : s.heap.IsKeyIter it d i n ep) (hod : s.heap.get? d = some od) (hdd : od.data = .dict es ep) (hsz : es.size = n) (hge : n ≤ i)
    (q : ∀ h' e, Heap.ExtBut it s.heap h' → (∃ o, h'.get? e = some o ∧ o.cls = .type "StopIteration") → E (.ref e) { s with heap := h' }) : wpAny (model prog w) A (Builtin.SmallTypes.nextOf (.ref it)) Q E s := by
  obtain ⟨oi, hi, ci, di⟩ := id hit
  have nx := F.slot_dict_keyiterator_next
  unfold Builtin.SmallTypes.nextOf
  refine wpAny_bind (wpAny_callSpecial?_slot (name := Str.ofString "__next__") hit.typeIs nx (wpAny_call_entry nx hit.typeIs F.entry_dict_keyiterator_next ?_ (F.args_dict_keyiterator_next_1 _)))
  have own : Builtin.Dict_items.ownsTuple "dict_keyiterator" = false := by decide
  refine wpAny_bind (wpAny_pure (wpAny_bind (wpAny_bind ?_)))
  first | refine wpAny_bind (wpAny_typeNameOfWhole_keyiter hit.typeIs (wpAny_pure (wpAny_bind (wpAny_fieldsOf hi di ?_)))) | refine wpAny_bind (wpAny_typeNameOf_keyiter hit.typeIs (wpAny_pure (wpAny_bind (wpAny_fieldsOf hi di ?_))))
  rw [own]
  simp only [Bool.false_eq_true, if_false]
  show wpAny _ _ (if (Value.ref d == Value.none) = true then _ else _) _ _ _
  have nn : ¬ ((Value.ref d == Value.none) = true) := Bool.false_ne_true
  rw [if_neg nn]
  refine wpAny_bind (wpAny_pure (wpAny_bind (wpAny_dictEntries hod hdd ?_)))
  rw [if_neg (by simp [hsz])]
  refine wpAny_bind (wpAny_pure (wpAny_bind (wpAny_dictEpoch hod hdd ?_)))
  rw [if_neg (by simp)]
  refine wpAny_pure ?_
  have h0 : ¬ ((i : Int) < 0) := by omega
  have gt : es.size ≤ i := by omega
  simp only [h0, if_false, Int.toNat_natCast, Array.getElem?_eq_none gt]
  refine wpAny_bind ?_
  first | refine wpAny_bind (wpAny_typeNameOfWhole_keyiter hit.typeIs (wpAny_pure ?_)) | refine wpAny_bind (wpAny_typeNameOf_keyiter hit.typeIs (wpAny_pure ?_))
  show wpAny _ _ (setField (.ref it) 0 .none >>= _) _ _ _
  refine wpAny_bind (wpAny_setField hi di (by simp) ?_)
  show wpAny _ _ (newExc (.type "StopIteration") [] >>= fun e => raiseNew e) _ _ _
  simp only [newExc, newTuple]
  refine wpAny_bind (wpAny_bind (wpAny_newObj_type (wpAny_bind (m := firstArgMember _ _) (wpAny_of_eq (a := Value.none) (by first | rfl | (simp only [firstArgMember]; rfl)) (wpAny_newObj_type ?_ (by size_fits)))) (by size_fits)))
  simp only [raiseNew]
  refine wpAny_bind (wpAny_handled ?_)
  rw [show A.in1.handled = none from hh]
  exact wpAny_bind (wpAny_pure (wpAny_throw (q _ _ (((Heap.SameBut.update ..).extBut.push _).push _) ⟨_, Heap.get?_push_size _ rfl, rfl⟩)))
end
/-- the dict whose object is od, walked by its keys -/
def KeysAr (d : Addr) (od : Obj) (es : Array DictEntry) (h : Heap) (its : Array Value) : Prop := h.get? d = some od ∧ its = es.map (·.key)
def KeysS (d : Addr) (od : Obj) (H : Hp) (xs : List V) : Prop := ∃ kvs, H d = some (.frz od (.dK kvs)) ∧ xs = kvs.map fun kv => kV kv.1
theorem keys_vals {P : Program} {w : World} : ∀ {es : List DictEntry} {kvs : List (L2.Key × V)} {vs : List (L2.Key × Value)}, Pairs (mixKind P w) es vs → KV kvs vs → Vals (kvs.map fun kv => kV kv.1) (es.map (·.key))
  | _, _, _, .nil, .nil => .nil
  | _, _, _, .cons h _ t, .cons r tr => by
    refine .cons ?_ (keys_vals t tr)
    obtain ⟨e, _⟩ := r
    dsimp only
    rw [e]
    exact relV_key h
theorem begins_keys {d : Addr} {od : Obj} {es : Array DictEntry} {ep : Nat} (hs : (d == sysModules) = false) (hx : od.ExactDict) (hd : od.data = .dict es ep) (its : Array Value) :
    Begins (.ref d) { cls := .type "dict_keyiterator", data := .fields #[.ref d, .int 0 0, .int es.size 0, .int ep 0] } fun h => KeysAr d od es h its where
  iter := fun prog w A E s Q hl h => iter_keys hs hl.1 hx hd h
  keeps := fun h h' x hk => ⟨hk d _ x.1, x.2⟩
  free := rfl
theorem src_keys (K : PySem.W.Frag) {d : Addr} {od : Obj} {es : Array DictEntry} {ep : Nat} (hs : (d == sysModules) = false) (hx : od.ExactDict) (hd : od.data = .dict es ep) :
    Src K d (KeysS d od) (KeysAr d od es) (fun h it i => h.IsKeyIter it d i es.size ep) { cls := .type "dict_keyiterator", data := .fields #[.ref d, .int 0 0, .int es.size 0, .int ep 0] } where
  get := fun hK I h => by
    obtain ⟨kvs, hf, rfl⟩ := h
    obtain ⟨_, hg, _, es', ep', vs, hdt, _, kv, o', es2, hm⟩ := I.frzK hf
    obtain ⟨ho, _, hdt', _, hp, _⟩ := hm
    rw [hg] at ho
    cases ho
    rw [(dict_ep hd hdt').1] at hp
    exact ⟨es.toList.map (·.key), keys_vals hp kv, hg, by rw [← Array.toList_map, Array.toArray_toList]⟩
  inj := fun hK I h h' => by
    obtain ⟨kvs, e, rfl⟩ := h
    obtain ⟨kvs', e', rfl⟩ := h'
    rw [e] at e'
    cases e'
    rfl
  lives := fun h => ⟨_, h.1⟩
  iobj := fun ⟨o, e, _, dt⟩ => ⟨o, e, fun v z => by rw [dt] at z; cases z⟩
  ikeep := fun st k => by
    obtain ⟨o, e, r⟩ := st
    exact ⟨o, k o e, r⟩
  draw := fun prog w A it its hh ne =>
    { live := fun _ _ st => let ⟨o, ho, _⟩ := st.1; ⟨o, ho⟩
      frame := fun _ _ _ st hk => ⟨let ⟨o, ho, r⟩ := st.1; ⟨o, hk it (by simp) o ho, r⟩, hk d (by simp) _ st.2.1, st.2.2⟩
      item := fun i s Q E hi st q => by
        obtain ⟨hi', ha, rfl⟩ := st
        have lt : i < es.size := by simpa using hi
        refine nextOf_key hi' ha hd rfl (Array.getElem?_eq_getElem lt) fun h' hit' hs' => ?_
        exact q _ h' s.toks (by simp [lt]) ⟨hit', (hs'.2 d ne).trans ha, rfl⟩ hs'
      done := fun s Q E st q => by
        obtain ⟨hi', ha, rfl⟩ := st
        exact nextOf_key_end hh hi' ha hd rfl (by simp) q }
  begin := fun its => begins_keys hs hx hd its
  first := fun e => ⟨_, e, rfl, rfl⟩
set_option maxHeartbeats 1000000 in
theorem meets_enum0 {v : Value} {o : Obj} {H : Heap → Prop} (B : Begins v o H) :
    Meets (Builtin.«enumerate.__new__» ⟨[.type "enumerate", v], []⟩) (fun _ R s => H s.heap ∧ R (.ok (.ret (.ref (s.heap.push o).objs.size))) { s with heap := (s.heap.push o).push { cls := .type "enumerate", data := .fields #[.none, .bool false, .ref s.heap.objs.size, rawInt 0, .none, .none] } }) :=
  .of_wp fun prog w A R s h => by
    obtain ⟨hp, g, d, tk, os⟩ := s; obtain ⟨h1, h⟩ := h
    have sb := sub_enumerate
    have q1 : ∀ {A' : Around} {E Q : Value → Shared → Prop}, Q (.ref hp.objs.size) ⟨hp.push o, g, d, tk, os⟩ → wpAny (model prog w) A' (pyIter v) Q E ⟨hp, g, d, tk, os⟩ := fun q => B.iter prog w _ _ ⟨hp, g, d, tk, os⟩ _ h1 q
    wp_walk using q1
    refine wpAny_stack_any fun st => wpAny_pure ?_
    split
    · rename_i c _ _ _ _ _
      cases (c == Value.type "enumerate") <;> (wp_walk using q1; exact ⟨_, rfl, h⟩)
    · wp_walk using q1
      exact ⟨_, rfl, h⟩
theorem enum0_begins {prog : Program} {w : World} {A : Around} {E : Value → Shared → Prop} {s : Shared} {v : Value} {o : Obj} {H : Heap → Prop} {Q : Value → Shared → Prop} (B : Begins v o H) (h1 : H s.heap)
    (h : ∀ h', IsEnum h' (s.heap.objs.size + 1) s.heap.objs.size 0 .none → h'.get? s.heap.objs.size = some o → h'.objs.size = s.heap.objs.size + 2 → (∀ b o, s.heap.get? b = some o → h'.get? b = some o) → Q (.ref (s.heap.objs.size + 1)) { s with heap := h' }) :
    wpAny (model prog w) A (PySem.call (.type "enumerate") [v]) Q E s := by
  refine callType_new F.called_enumerate (by decide) (F.typeCall_enumerate_1 _) (F.newCall_enumerate_1 _) (fun obj => F.args_object_init_2 obj _) F.entry_enumerate_new (meets_enum0 B) ⟨h1, ?_⟩
  have hz : (s.heap.push o).objs.size = s.heap.objs.size + 1 := Heap.size_push ..
  have he := Heap.get?_push_size (s.heap.push o) (o := { cls := .type "enumerate", data := .fields #[.none, .bool false, .ref s.heap.objs.size, rawInt 0, .none, .none] }) rfl
  show _ ∧ _
  rw [hz] at he ⊢
  exact ⟨⟨_, he, rfl⟩, h _ he (Heap.get?_push_of_some _ (Heap.get?_push_size _ B.free)) (by rw [Heap.size_push, hz]) fun b o x => Heap.get?_push_of_some _ (Heap.get?_push_of_some _ x)⟩
/-- enumerate(d) -/
@[irreducible] def iEnumD (te : TE) : TI := fun σ H R => te σ H fun x H1 => ∃ d od kvs, x = .ref d ∧ H1 d = some (.frz od (.dK kvs)) ∧ R (ItS (KeysS d od) 0) H1
theorem pi_enumD {X : Cx} {e : Expr} {te : TE} {p pos tpos : Pos} {elts : List Expr} {kk : Nat} (hg : Gl X "enumerate") (hm : X.mg "enumerate" = none) (he : PE X e te)
    (hs : starEach [e] X.env = (false, eval e X.env) :: starEach [] X.env := by rfl) :
    PI X (.Tuple elts kk tpos) (.Call (.Name "enumerate" p) [e] [] pos) (iEnumD te) := by
  unfold iEnumD
  refine ⟨fun pins s σ H R I h => ?_⟩
  refine wpAny_Call_Name_kw (ld_blt I hg hm boot_enumerate (PyProof.Rows.callWith_type1 ?_ hs rfl))
  rw [hs]
  refine Calls.spliced_cons (thn (he.run pins s σ H _ I h) fun u s1 ⟨x, H1, I1, rx, d, od, kvs, ex, hf, q⟩ => Calls.spliced_nil ?_)
  subst ex
  obtain rfl : u = Value.ref d := rx
  obtain ⟨hss, hgd, hx, es, ep, vs, hdt, hsz, kv, hm⟩ := I1.frzK hf
  have sr := src_keys X.K hss hx hdt
  obtain ⟨its, rv, hA⟩ := sr.get rfl I1 ⟨kvs, hf, rfl⟩
  refine enum0_begins (sr.begin its.toArray) hA fun h' hen hit hsz hk => wpAny_pyIter_enum hen ?_
  have I2 : Inv X pins σ H1 { s1 with heap := h' } := I1.kept (t' := s1.toks) hk
  have hlt := Heap.lt_size hgd
  refine ⟨s1.heap.objs.size + 1, [s1.heap.objs.size + 1, s1.heap.objs.size], _, _, H1, rfl, I2, turn_enumS sr 0 (s1.heap.objs.size + 1) s1.heap.objs.size (Nat.ne_of_lt hlt) (Nat.succ_ne_self _) (Nat.ne_of_gt (Nat.lt_succ_of_lt hlt)), ⟨⟨.none, by simpa using hen⟩, sr.first hit⟩, fun b hb => ?_, q⟩
  have hle : s1.heap.objs.size ≤ b := by
    rcases List.mem_cons.mp hb with z | z
    · rw [z]
      exact Nat.le_succ _
    · rw [List.mem_singleton.mp z]
      exact Nat.le_refl _
  exact I1.fpOk hle (I1.hok.fresh hle)
end Kb
namespace Kb
open PySem PySem.Spec PyProof.Rows L2
/-- list(d): the keys -/
@[irreducible] def rListD (K : PySem.W.Frag) : List V → Hp → VK → Prop := fun xs H Q => ∃ (a : Addr) (kvs : List (L2.Key × V)), xs = [.ref a] ∧ Rd H a (.dK kvs) ∧ ∀ p, H p = none → Q (.ref p) (upd H p (.lst (kvs.map fun kv => kV kv.1)))
theorem u_listD {X : Cx} (hc : X.calm = true) : CallR X (.type "list") (rListD X.K) := by unfold rListD; exact call_listD hc
section
variable {K : PySem.W.Frag} {H : Hp} {Q : VK} {a d : Addr} {x y v : V} {xs : List V} {kvs : List (L2.Key × V)} {k : L2.Key}
theorem listD_go (h : H a = some (.dK kvs)) (q : ∀ p, H p = none → Q (.ref p) (upd H p (.lst (kvs.map fun kv => kV kv.1)))) : rListD K [.ref a] H Q := by unfold rListD; exact ⟨a, kvs, rfl, .inl h, q⟩
theorem isiX_go {cv : Value} {n : String} {b : Bool} (ty : TyX K H x cv) (k : PySem.W.kitOne K cv (.type n) = some b) (q : Q (.bl b) H) : rIsiU K [x, .ty n] H Q := by unfold rIsiU; exact .inl ⟨x, .ty n, cv, .type n, b, rfl, .ty n, ty, k, q⟩
theorem eqS_no (h : rEqU K x y H Q) : rEqS K x y H Q := .inl h
theorem eqS_in {C dx : Addr} {fs : List (Str × V)} (h : H a = some (.ins C dx fs)) (p : PlainEq K C) (q : Q (.bl true) H) : rEqS K (.ref a) (.ref a) H Q := .inr ⟨a, C, dx, fs, rfl, rfl, h, p, q⟩
end
/-- a class whose things are equal by identity, and whose type is read plainly -/
structure PlainCls (K : PySem.W.Frag) (C : Addr) : Prop where
  cl : Cls K C
  eq : PlainEq K C
  ha : PySem.W.findIn K (.ref C) "__class__" = some (some (.builtin "object.__class__"))
  hn : PySem.W.specialIn K (.builtin "object.__class__") "__get__" = some (some (.builtin "getset_descriptor.__get__"))
  ht : PySem.W.takesIn K (.builtin "object.__class__") = some true
theorem PlainCls.ty {K : PySem.W.Frag} {C a dx : Addr} {H : Hp} {fs : List (Str × V)} (p : PlainCls K C) (h : H a = some (.ins C dx fs)) : TyX K H (.ref a) (.ref C) := .base (.ins h p.cl p.ha p.hn p.ht p.eq.mro)
end Kb

/-! ### more built-ins: max of two, sorted, list.index from a place on; their joined words -/
namespace Kb
open PySem PySem.Spec PyProof.Rows L2
@[irreducible] def rMax2U : List V → Hp → VK → Prop := fun xs H Q => ∃ i j, xs = [.int i, .int j] ∧ Q (.int (if j > i then j else i)) H
@[irreducible] def rSortedU (K : PySem.W.Frag) : List V → Hp → VK → Prop := rSorted K
@[irreducible] def rIdx3U (K : PySem.W.Frag) : V → List V → Hp → VK → Prop := fun x xs H Q => ∃ (a : Addr) (ns : List Int) (k : Int) (f j : Nat), x = V.ref a ∧ xs = [.int k, .int (f : Int)] ∧ SqL K H a (ns.map V.int) ∧ f ≤ j ∧ ns[j]? = some k ∧ (∀ m, f ≤ m → m < j → ns[m]? ≠ some k) ∧ Q (.int (j : Nat)) H
section
variable {X : Cx}
theorem u_max2 (hc : X.calm = true) : CallR X (.builtin "max") rMax2U := by unfold rMax2U; exact call_max2 hc
theorem u_sorted : CallR X (.builtin "sorted") (rSortedU X.K) := by unfold rSortedU; exact cr_sorted
theorem u_index3 : MtR X "list.index" (rIdx3U X.K) := by
  intro pins s σ H x xs v us Q I rx rxs h
  unfold rIdx3U at h
  obtain ⟨a, ns, k, f, j, rfl, rfl, hs, hfj, hz, hno, q⟩ := h
  cases rx
  cases rxs with
  | cons ry rt =>
    cases rt with
    | cons ra rn =>
      cases rn
      rename_i uy ua
      obtain ⟨t, rfl⟩ := (show ∃ t, ua = Value.int (f : Int) t from ra)
      obtain ⟨its, rv, ⟨⟨cls, dd, data, sl⟩, n, ho, hc, hdn, hd⟩, hlen⟩ := I.list hs
      simp only at hc hd; subst hc hd
      have hvl := rv.length
      rw [List.length_map] at hvl hlen
      have hjn : j < ns.length := (List.getElem?_eq_some_iff.mp hz).1
      have hsz : its.toArray.size = ns.length := by rw [List.size_toArray]; exact hvl.symm
      have hsl := sizeLine_eq
      have hfl : (ns.map V.int).all flatV = true := List.all_eq_true.mpr fun v hv => by obtain ⟨i, _, rfl⟩ := List.mem_map.mp hv; rfl
      have hall := mem_eqAt (A := X.A.in1) (s := s) ry rfl rv hfl
      refine call_meets PySem.F.slot_list_index ⟨_, ho, rfl⟩ PySem.F.entry_list_index (PySem.F.args_list_index_3 _ _ _)
        (SeqAt.list_index3_found a its.toArray n dd sl uy (fun m => decide (ns[m]? = some k)) (f : Int) t j (by omega) (by rw [SeqAt.searchFrom_nonneg (by omega)]; omega) (by omega) (decide_eq_true hz) fun m hm h1 h2 => decide_eq_false (hno m (by rw [SeqAt.searchFrom_nonneg (by omega)] at h1; omega) h2)) ⟨ho, fun m hm => ?_, ?_⟩
      · have hmn : m < ns.length := by omega
        obtain ⟨u2, hu2, ru2⟩ := rv.get (show (ns.map V.int)[m]? = some (.int ns[m]) by rw [List.getElem?_map, List.getElem?_eq_getElem hmn]; rfl)
        obtain ⟨_, hme⟩ := List.getElem?_eq_some_iff.mp hu2
        have e1 : its.toArray[m] = u2 := by simpa using hme
        have h3 := hall u2 (List.mem_of_getElem? hu2)
        rw [eqU_of ru2 rfl] at h3
        rw [e1, List.getElem?_eq_getElem hmn]
        have e2 : decide (some ns[m] = some k) = eqV (.int ns[m]) (.int k) := by
          show decide (some ns[m] = some k) = (ns[m] == k)
          by_cases e : ns[m] = k <;> simp [e]
        rw [e2]
        exact h3
      · exact ⟨.int (j : Nat), H, I.tok _, ⟨_, rfl⟩, q⟩
end
section
variable {K : PySem.W.Frag} {H : Hp} {Q : VK} {a : Addr}
theorem max2_go {i j : Int} (q : Q (.int (if j > i then j else i)) H) : rMax2U [.int i, .int j] H Q := by unfold rMax2U; exact ⟨_, _, rfl, q⟩
theorem sorted_go {ns : List Int} (h : SqL K H a (ns.map V.int)) (hl : ns.length < 64) (q : ∀ (ns' : List Int) (p : Addr), ns'.Perm ns → ns'.Pairwise (· ≤ ·) → H p = none → Q (.ref p) (upd H p (.lst (ns'.map V.int)))) : rSortedU K [.ref a] H Q := by unfold rSortedU; exact ⟨_, _, rfl, h, hl, q⟩
theorem idx3_go {ns : List Int} {k : Int} {f j : Nat} (h : SqL K H a (ns.map V.int)) (h1 : f ≤ j) (h2 : ns[j]? = some k) (h3 : ∀ m, f ≤ m → m < j → ns[m]? ≠ some k) (q : Q (.int (j : Nat)) H) : rIdx3U K (.ref a) [.int k, .int (f : Int)] H Q := by unfold rIdx3U; exact ⟨_, _, _, _, _, rfl, rfl, h, h1, h2, h3, q⟩
theorem sumI_go {ns : List Int} (h : SqL K H a (ns.map V.int)) (q : Q (.int ns.sum) H) : rSumU K [.ref a] H Q := by unfold rSumU; exact ⟨_, _, rfl, h, q⟩
theorem inV_ints (k : Int) : ∀ ns : List Int, inV (.int k) (ns.map V.int) = decide (k ∈ ns)
  | [] => rfl
  | n :: ns => by
    have ih := inV_ints k ns
    unfold inV at ih ⊢
    rw [List.map_cons, List.any_cons, ih]
    show ((n == k) || decide (k ∈ ns)) = decide (k ∈ n :: ns)
    by_cases e : n = k
    · rw [e]
      simp
    · have e' : ¬ k = n := fun z => e z.symm
      simp [e, e']
theorem inI_go {k : Int} {ns : List Int} (h : SqL K H a (ns.map V.int)) (q : Q (.bl (decide (k ∈ ns))) H) : rInU K (.int k) (.ref a) H Q := by
  refine inL_go h rfl (List.all_eq_true.mpr fun v hv => by obtain ⟨i, _, rfl⟩ := List.mem_map.mp hv; rfl) ?_
  rw [inV_ints]
  exact q
end
end Kb

/-! ### sorted(x, key=lambda p: p[0]) of a list or a tuple of tuples whose first thing is a number: by it, alike ones in their order -/
namespace Kb
open PySem PySem.Spec PyProof.Rows L2
open LamX (CodeO Tabs ExtN TabB lam_make2)
section
variable {prog : Program} {w : World} {A : Around} {E : Value → Shared → Prop} {s : Shared}
/-- what a list or a tuple holds, collected -/
theorem coll_seq {l : Addr} {o : Obj} {T : String} {n : Nat} {vs : List Value} {Q : List Value → Shared → Prop} (ho : s.heap.get? l = some o) (hc : o.cls = .type T) (hT : T = "list" ∨ T = "tuple") (hd : o.data = .seq vs.toArray n) (hsz : vs.length ≤ sizeLine)
    (h : Q vs { s with heap := (s.heap.push (seqObj "list" #[] 0)).update s.heap.objs.size (Obj.mapSeq (· ++ vs.toArray)) }) : wpAny (model prog w) A (collect (.ref l)) Q E s := by
  have hp : (s.heap.push (seqObj "list" #[] 0)).get? s.heap.objs.size = some (seqObj "list" #[] 0) := Heap.get?_push_size _ rfl
  have hp' : (s.heap.push (seqObj "list" #[] 0)).get? l = some o := Heap.get?_push_of_some _ ho
  unfold collect
  refine wpAny_bind (wpAny_runValue (codeAny_builtin entry_proto_collect' ?_))
  show wpAny _ _ (newList [] >>= fun y => again (.builtin "list.__iadd__" ⟨[y, .ref l], []⟩)) _ _ s
  refine wpAny_bind (wpAny_newList (wpAny_pure (And.intro (Code.quiet_builtin _ (by decide +kernel)) (codeAny_builtin entry_list_iadd' ?_))))
  show wpAny _ _ (Builtin.List.listExtendWith (.ref s.heap.objs.size) (.ref l) (.ref s.heap.objs.size)) _ _ _
  unfold Builtin.List.listExtendWith
  refine wpAny_bind (wpAny_typeOf (T := T) ⟨o, hp', hc⟩ ?_)
  have hb : ∀ z : Bool, (z || (Value.type T == Value.type "list") || (Value.type T == Value.type "tuple")) = true := fun z => by
    rcases hT with rfl | rfl
    · rw [show (Value.type "list" == Value.type "list") = true from by rfl, Bool.or_true, Bool.true_or]
    · rw [show (Value.type "tuple" == Value.type "tuple") = true from by rfl, Bool.or_true]
  rw [if_pos (hb _)]
  refine wpAny_bind (listItems_at hp' hd (wpAny_bind (listItems_at (xs := #[]) (n := 0) hp rfl ?_)))
  rw [if_neg (by simp)]
  have z : (#[] ++ vs.toArray : Array Value).size ≤ sizeLine + 1 := by rw [Array.size_append, List.size_toArray]; exact Nat.le_succ_of_le (by simpa using hsz)
  refine wpAny_bind (listUpdate_at (xs := #[]) (n := 0) hp rfl (wpAny_pure ?_) (Nat.zero_le _) z)
  show wpAny _ _ (load s.heap.objs.size >>= fun y => match y.data with | .seq xs _ => pure xs.toList | _ => unsupported "internal:collect") _ _ _
  refine wpAny_bind (wpAny_load (get?_update_seq hp _) ?_)
  have e : ((#[] : Array Value) ++ vs.toArray).toList = vs := by simp
  show wpAny _ _ (pure _) _ _ _
  rw [e]
  exact wpAny_pure h
/-- sorted by a key, of a list or a tuple -/
theorem srt_key {h₀ : Heap} {L l f : Addr} {o : Obj} {T : String} {n : Nat} {m : Str → Option Value} {news : List (Addr × Obj)} {vs : List Value} {kz : List Int} {Q : Value → Shared → Prop} (F : Fr h₀ L s.heap m) (N : News h₀ L s.heap news)
    (ho : s.heap.get? l = some o) (hc : o.cls = .type T) (hT : T = "list" ∨ T = "tuple") (hd : o.data = .seq vs.toArray n) (hsz : vs.length ≤ sizeLine) (hlen : kz.length = vs.length)
    (turn : ∀ (i : Nat) (v : Value) (k : Int), vs[i]? = some v → kz[i]? = some k → ∀ (h : Heap) (tk : Nat) (own : List (Addr × Obj)), Fr h₀ L h m → News h₀ L h (news ++ own) → wpAny (model prog w) A.in1.in1 (call (.ref f) [v]) (KskEnd h₀ L m (news ++ own) k { s with heap := h, toks := tk }) (fun _ _ => False) { s with heap := h, toks := tk })
    (q : ∀ D h' tk out c, Fr h₀ L h' m → News h₀ L h' ((D, seqObj "list" out c) :: news) → s.heap.objs.size ≤ D → KskOutSt false kz vs out.toList → Q (.ref D) { s with heap := h', toks := tk }) :
    wpAny (model prog w) A (call (.builtin "sorted") [.ref l] [(Str.ofString "key", .ref f)]) Q E s := by
  refine call_function_entry_kw kind_sorted plain_sorted entry_sorted (ksk_s1 _ _) ?_
  unfold Builtin.«sorted»
  refine wpAny_bind (m := checkCount "sorted" 1 1 _) (wpAny_pure (wpAny_bind (coll_seq ho hc hT hd hsz (wpAny_bind (wpAny_newList ?_ hsz)))))
  obtain ⟨H1, e1⟩ : ∃ H1, H1 = (s.heap.push (seqObj "list" #[] 0)).update s.heap.objs.size (Obj.mapSeq (· ++ vs.toArray)) := ⟨_, rfl⟩
  have z1 : H1.objs.size = s.heap.objs.size + 1 := by rw [e1, Heap.size_update, size_push']
  have k1 : ∀ b u, s.heap.get? b = some u → H1.get? b = some u := fun b u e => by
    have lt := Nat.ne_of_lt (Heap.lt_size e)
    rw [e1, Heap.get?_update_ne _ _ _ _ lt]
    exact Heap.get?_push_of_some _ e
  show wpAny _ _ _ _ _ { s with heap := ((s.heap.push (seqObj "list" #[] 0)).update s.heap.objs.size (Obj.mapSeq (· ++ vs.toArray))).push (seqObj "list" vs.toArray 0) }
  rw [← e1]
  have k2 : ∀ b u, s.heap.get? b = some u → (H1.push (seqObj "list" vs.toArray 0)).get? b = some u := fun b u e => Heap.get?_push_of_some _ (k1 b u e)
  have hD : (H1.push (seqObj "list" vs.toArray 0)).get? H1.objs.size = some (seqObj "list" vs.toArray 0) := Heap.get?_push_size _ rfl
  have lL : L < s.heap.objs.size := F.ns.lt
  refine wpAny_bind (wpAny_holding (wpAny_call_entry_kw slot_list_sort ⟨_, hD, rfl⟩ entry_list_sort ?_ (ksk_l1 _ _)))
  rw [ksk_t1]
  refine ksk_sortSt (s := { s with heap := H1.push (seqObj "list" vs.toArray 0) }) (F.kept k2) (N.grown k2) hD (by rw [z1]; exact Nat.ne_of_gt (Nat.lt_succ_of_lt lL)) (Heap.get?_none_of_le (by rw [z1]; exact Nat.le_trans F.above (Nat.le_succ_of_le (Nat.le_of_lt lL)))) (fun p hp => by rw [z1]; exact Nat.ne_of_lt (Nat.lt_succ_of_lt (Heap.lt_size (N p hp).1))) hlen hsz turn fun h' tk out c F' N' o' => ⟨_, rfl, ?_⟩
  exact wpAny_pure ⟨_, rfl, q _ h' tk out c F' N' (by rw [z1]; exact Nat.le_succ _) o'⟩
end
end Kb
namespace Kb
open PySem PySem.Spec PyProof.Rows L2
open LamX (CodeO Tabs ExtN TabB lam_make2)
theorem perm_lift {α β : Type} {R : α → β → Prop} {l2 l1 : List β} (h : l2.Perm l1) : ∀ {xs : List α}, Paired R xs l1 → ∃ ys, ys.Perm xs ∧ Paired R ys l2 := by
  induction h with
  | nil => exact fun r => ⟨_, .refl _, r⟩
  | cons x _ ih =>
    intro xs r
    cases r with
    | cons a t =>
      obtain ⟨ys, p, r'⟩ := ih t
      exact ⟨_ :: ys, p.cons _, .cons a r'⟩
  | swap x y l =>
    intro xs r
    cases r with
    | cons a t => cases t with
      | cons b u => exact ⟨_, .swap _ _ _, .cons b (.cons a u)⟩
  | trans _ _ ih1 ih2 =>
    intro xs r
    obtain ⟨ys, p, r'⟩ := ih2 r
    obtain ⟨zs, p', r''⟩ := ih1 r'
    exact ⟨zs, p'.trans p, r''⟩
/-- ys is xs by rising ks -/
def ByKey (ks : List Int) (xs ys : List V) : Prop := ∃ ps : List (Int × V), ps.Perm (ks.zip xs) ∧ ys = ps.map Prod.snd ∧ ps.Pairwise fun p q => p.1 ≤ q.1
theorem by_key {kz : List Int} {xs : List V} {vs out : List Value} (r : Vals xs vs) (h : KskOutSt false kz vs out) : ∃ ys, ByKey kz xs ys ∧ Vals ys out := by
  obtain ⟨ps, hp, rfl, ho, hst⟩ := h
  clear hst
  have z : ∀ {ks : List Int} {xs : List V} {vs : List Value}, Vals xs vs → Paired (fun (p : Int × V) (q : Int × Value) => p.1 = q.1 ∧ RelV p.2 q.2) (ks.zip xs) (ks.zip vs) := by
    intro ks xs vs r
    induction r generalizing ks with
    | nil =>
      rw [List.zip_nil_right, List.zip_nil_right]
      exact .nil
    | cons a t ih => cases ks with
      | nil => exact .nil
      | cons k ks => exact .cons ⟨rfl, a⟩ ih
  obtain ⟨qs, hq, rq⟩ := perm_lift hp (z r)
  refine ⟨qs.map Prod.snd, ⟨qs, hq, rfl, ?_⟩, ?_⟩
  · have f : ∀ {qs : List (Int × V)} {ps : List (Int × Value)}, Paired (fun (p : Int × V) (q : Int × Value) => p.1 = q.1 ∧ RelV p.2 q.2) qs ps → qs.map Prod.fst = ps.map Prod.fst := by
      intro qs ps r
      induction r with
      | nil => rfl
      | cons a _ ih => rw [List.map_cons, List.map_cons, ih, a.1]
    have e := f rq
    have h1 : (ps.map Prod.fst).Pairwise (· ≤ ·) := List.pairwise_map.mpr (ho.imp fun h => by simpa using h)
    rw [← e] at h1
    exact List.pairwise_map.mp h1
  · clear hq hp ho
    induction rq with
    | nil => exact .nil
    | cons a _ ih => exact .cons a.2 ih
open LamX (TabS inv_table among_app codeO_ne) in
/-- the lambda is made: its code object is new, or found in the table at P; all but the table stays -/
theorem lam_make3 {X : Cx} {pins : List (Addr × Obj)} {σ : L2.St} {H : Hp} {s : Shared} {c P : Addr} {params : Arguments} {body : Expr} {scope : Scope} {pos : Pos} {E Q : Value → Shared → Prop} (I : Inv X pins σ H s) (TB : TabB X.base X.mg c P) (hcode : X.env.code = .ref c) (hT : TabS H P (X.env.qual ++ "<lambda>")) (hdef : defaultsOf params X.env = ([], [])) (hfree : ∀ y ∈ scope.names, y.2 = .free → ∃ c, X.env.cells.lookup y.1 = some c)
    (q : ∀ (f c' : Addr) (pm ctv : Value) (H1 : Hp) (s' : Shared), Inv X pins σ H1 s' → Kp [P] H H1 → TabS H1 P (X.env.qual ++ "<lambda>") → s'.heap.get? f = some (PySem.W.kla_obj "<lambda>" (X.env.qual ++ "<lambda>") params body scope (cloFrom X.env.cells scope.names []) pm c' ctv) → H1 c' = some (CodeO c' (X.env.qual ++ "<lambda>")) → Q (.ref f) s') :
    wpAny (model X.prog X.w) X.A (eval (.Lambda params body scope pos) X.env) Q E s := by
  obtain ⟨ps, hP, ht, ha⟩ := hT
  have bP := TB.bm.keeps I.bk
  have oP : s.heap.get? P = some { cls := .none, data := .fields ps } := I.hok P _ hP
  refine PySem.W.kla_eval hdef ?_
  cases hc : codeAmong pos ps.toList with
  | some cv =>
    obtain ⟨c', rfl, hco⟩ := ha pos cv hc
    refine PySem.W.kla_makeFunctionHit (mg := X.mg) (c := c) (P := P) (ps := ps) (closure_ok hfree) I.ok.glob (I.mod.glob.keeps I.bk) hcode (TB.code.keeps I.bk) oP ht hc bP fun ctv h' tk hx hsz => ?_
    exact q _ c' _ ctv H _ (I.kept (t' := tk) fun b o e => Heap.get?_push_of_some _ (hx b o e)) Kp.refl ⟨ps, hP, ht, ha⟩ (Heap.get?_push_size _ rfl) hco
  | none =>
    refine PySem.W.kla_makeFunction (mg := X.mg) (c := c) (P := P) (ps := ps) (closure_ok hfree) I.ok.glob (I.mod.glob.keeps I.bk) hcode (TB.code.keeps I.bk) oP ht hc TB.gP bP fun c' ctv h' tk hx hge hlt hrec htb => ?_
    obtain ⟨c2, oc, vs, t, e2, hoc, hd, hv⟩ := hrec
    cases e2
    have nC : H c' = none := I.hok.fresh hge
    have I1 := inv_table (t' := tk) (more := #[rawInt pos.line, rawInt pos.col, .ref c']) (h' := h'.push (PySem.W.kla_obj "<lambda>" (X.env.qual ++ "<lambda>") params body scope (cloFrom X.env.cells scope.names []) ((X.mg "__name__").getD .none) c' ctv)) I hP (fun b o hb e => Heap.get?_push_of_some _ (hx b o hb e)) (Heap.get?_push_of_some _ htb) hge ⟨oc, vs, t, Heap.get?_push_of_some _ hoc, hd, hv⟩
    have kk : Kp [P] H (upd (upd H P (.tbl (ps ++ #[rawInt pos.line, rawInt pos.col, .ref c']))) c' (CodeO c' (X.env.qual ++ "<lambda>"))) := (Kp.refl.upd_in List.mem_cons_self).upd_new nC
    have eL : (ps ++ #[rawInt pos.line, rawInt pos.col, .ref c']).toList = ps.toList ++ [rawInt pos.line, rawInt pos.col, .ref c'] := by simp
    refine q _ c' _ ctv _ _ I1 kk ⟨_, (upd_ne (ne_of_none hP nC)).trans upd_same, by rw [eL]; exact PySem.TriplesOk_snoc _ _ _ _ ht, fun p' cv hcv => ?_⟩ (Heap.get?_push_size _ rfl) upd_same
    rw [eL] at hcv
    rcases among_app _ ht hcv with z | rfl
    · obtain ⟨c0, e1, e2⟩ := ha p' cv z
      refine ⟨c0, e1, kk c0 _ (fun m => ?_) e2⟩
      rw [List.mem_singleton.mp m, hP] at e2
      exact codeO_ne ps (Option.some.inj e2).symm
    · exact ⟨c', rfl, upd_same⟩
def tSortKey (K : PySem.W.Frag) (P : Addr) (qn : Str) (te : TE) : TE := fun σ H Q => te σ H fun x H1 => LamX.TabS H1 P qn ∧ ∃ a xs ks, x = .ref a ∧ (SqL K H1 a xs ∨ SqT K H1 a xs) ∧ Paired (fun (k : Int) (y : V) => ∃ t r, y = .ref t ∧ SqT K H1 t (.int k :: r)) ks xs ∧
  ∀ H2 ys p, Kp [P] H1 H2 → LamX.TabS H2 P qn → H2 p = none → ByKey ks xs ys → Q (.ref p) (upd H2 p (.lst ys))
/-- what stands in a heap, but for one place -/
def allBut (L : Addr) (h : Heap) : List (Addr × Obj) := (List.range h.objs.size).filterMap fun b => if b = L then none else (h.get? b).map fun o => (b, o)
theorem mem_allBut {L : Addr} {h : Heap} {b : Addr} {o : Obj} : (b, o) ∈ allBut L h ↔ b ≠ L ∧ h.get? b = some o := by
  unfold allBut
  rw [List.mem_filterMap]
  constructor
  · rintro ⟨c, _, e⟩
    split at e
    · cases e
    · rename_i n
      obtain ⟨o', h1, h2⟩ := Option.map_eq_some_iff.mp e
      cases h2
      exact ⟨n, h1⟩
  · rintro ⟨n, e⟩
    exact ⟨b, List.mem_range.mpr (Heap.lt_size e), by rw [if_neg n, e]; rfl⟩
section
variable {X : Cx} {pins : List (Addr × Obj)} {σ : L2.St} {H : Hp} {s : Shared} {h' : Heap}
theorem Inv.butL {t' : Nat} {m : Str → Option Value} {D : Addr} {ob : HO} (I : Inv X pins σ H s) (hm : s.heap.Ns X.env.locals m) (hn : h'.Ns X.env.locals m) (k : ∀ b o, b ≠ X.env.locals → s.heap.get? b = some o → h'.get? b = some o) (hp : s.heap.objs.size ≤ D) (new : ObjOk X.prog X.w (upd H D ob) h' D ob) :
    Inv X pins σ (upd H D ob) { s with heap := h', toks := t' } := by
  have hl : ∃ o, h'.get? X.env.locals = some o := by
    obtain ⟨o, _, _, e, _⟩ := hn
    exact ⟨o, e⟩
  have nD : H D = none := I.hok.fresh hp
  have old : ∀ {b : Addr} {o : HO}, H b = some o → (upd H D ob) b = some o := fun e => (upd_ne (ne_of_none e nD)).trans e
  refine I.step (g' := s.gens) (d' := s.drawn) (ch := []) (fun b z => nomatch z) (fun b o n _ _ e _ => k b o n e) (fun b o n _ _ e _ => ⟨o.slots, k b o n e⟩) (fun b o _ e n => ?_) (fun b o _ e => ?_) (fun _ _ e => old e) (fun _ _ _ e => old e) (fun b ps e => ⟨#[], by rw [old e]; simp⟩) (fun m2 h2 => ?_) (fun a o e => ?_) I.bare
  · have := Heap.lt_size e
    rw [upd_ne (Nat.ne_of_lt (Nat.lt_of_lt_of_le this hp))]
    exact n
  · by_cases z : b = X.env.locals
    · rw [z]
      exact hl
    · exact ⟨o, k b o z e⟩
  · have e : m2 = m := funext fun y => h2.agree hm y
    rw [e]
    exact hn
  · by_cases z : a = D
    · rw [z, upd_same] at e
      cases e
      rw [z]
      exact new
    · rw [upd_ne z] at e
      refine (I.hok a o e).stay (fun b u hb q => k b u (fun z => ?_) q) (fun b q => old q) fun b _ q => old q
      have fr := I.free
      rcases hb with hb | hb
      · rw [← z, hb, e] at fr
        cases fr
      · rw [← z, hb] at fr
        cases fr
theorem news_keep {h₀ h h1 : Heap} {L : Addr} {m : Str → Option Value} {own : List (Addr × Obj)} (z : ∀ b o, h₀.get? b = some o → h.get? b = some o) (F : Fr h₀ L h1 m) (N : News h₀ L h1 (((allBut L h).filter fun p => (h₀.get? p.1).isNone) ++ own)) : ∀ b o, b ≠ L → h.get? b = some o → h1.get? b = some o := fun b o n e => by
  cases q : h₀.get? b with
  | none => exact (N (b, o) (List.mem_append_left _ (List.mem_filter.mpr ⟨mem_allBut.mpr ⟨n, e⟩, by rw [q]; rfl⟩))).1
  | some o' =>
    have := z b o' q
    rw [e] at this
    cases this
    exact F.keep b o q
theorem news_all (h₀ : Heap) (L : Addr) (h : Heap) (z : ∀ b o, h₀.get? b = some o → h.get? b = some o) : News h₀ L h ((allBut L h).filter fun p => (h₀.get? p.1).isNone) := fun p hp => by
  obtain ⟨b, o⟩ := p
  obtain ⟨h1, h2⟩ := List.mem_filter.mp hp
  obtain ⟨n, e⟩ := mem_allBut.mp h1
  exact ⟨e, n, Option.isNone_iff_eq_none.mp h2⟩
/-- a lambda p: p[0] called of a tuple, where a built-in function calls it -/
theorem lam_turn {q pa : Str} {f c' : Addr} {params : Arguments} {scope : Scope} {pm ctv : Value} {h₀ h : Heap} {L t : Addr} {m : Str → Option Value} {need : List (Addr × Obj)} {tk : Nat} {k : Int} {tkk : Tok} {its : List Value} {p1 p2 p3 : Pos} {A : Around} {prog : Program} {w : World} {j : Nat}
    (hd : A.depth + 3 < recursionLimit) (F : Fr h₀ L h m) (N : News h₀ L h need) (nl : h.NoLimit) (hf : h.get? f = some (PySem.W.kla_obj "<lambda>" q params (.Subscript (.Name pa p1) (.Constant (.int 0) j p2) p3) scope [] pm c' ctv))
    (hc : ∃ (oc : Obj) (vs : Array Value) (t : Tok), h.get? c' = some oc ∧ oc.data = .fields vs ∧ vs[1]? = some (.str q t)) (S : NdefX.NScope [pa] [pa] [] scope) (hpa : (pa == ("__debug__" : Str)) = false)
    (hb : ∀ u, bindArgs (PySem.W.kla_fn "<lambda>" q params (.Subscript (.Name pa p1) (.Constant (.int 0) j p2) p3) scope [] pm (.ref c') ctv) ⟨[u], []⟩ = pure [(pa, u)]) (ht : IsTup h t (Value.int k tkk :: its).toArray) :
    wpAny (model prog w) A (call (.ref f) [.ref t]) (KskEnd h₀ L m need k { s with heap := h, toks := tk }) (fun _ _ => False) { s with heap := h, toks := tk } := by
  obtain ⟨oc, cs, tq, h1, h2, h3⟩ := hc
  refine wpAny_call (PySem.W.kla_callFunE (by omega) hf rfl S.co S.gen rfl ⟨c', oc, cs, tq, rfl, h1, h2, h3⟩ ?_)
  rw [hb]
  refine wpAny_pure (wpAny_newFunctionEnv S.nocell (fun y hy => by rw [List.mem_singleton.mp hy]; exact S.par pa List.mem_cons_self) (fun g hns hsb => ⟨nl.fresh _ hsb, ?_⟩) S.kind)
  have kp : ∀ b o, h.get? b = some o → g.get? b = some o := fun b o e => hsb.extBut b o (Nat.ne_of_lt (Heap.lt_size e)) (Heap.get?_push_of_some _ e)
  refine PySem.W.kla_codeExpr (Subscript_ (wpAny_Name (wpAny_loadName_local (v := .ref t) S.kind ?_ hns ?_ ?_) hpa))
  · show scope.names.lookup pa = some .local
    exact S.par pa List.mem_cons_self
  · show List.lookup pa [(pa, Value.ref t)] = _
    simp
  refine wpAny_Constant_int ?_
  refine subscriptTail_builtinR (x := .int k tkk) (IsTup.typeIs (ht.keeps kp)) slot_tuple_getitem.lookup (getItem_tuple (j := 0) (ht.keeps kp) (by decide) (by decide) ?_ ?_ ⟨rfl, ?_⟩)
  · unfold seqIndex?
    simp
  · simp
  · exact ⟨g, _, tkk, rfl, rfl, F.kept kp, fun p hp => ⟨kp _ _ (N p hp).1, (N p hp).2⟩⟩
theorem paired_len {α β : Type} {R : α → β → Prop} : ∀ {xs : List α} {ys : List β}, Paired R xs ys → xs.length = ys.length
  | _, _, .nil => rfl
  | _, _, .cons _ t => by rw [List.length_cons, List.length_cons, paired_len t]
theorem paired_at {α β : Type} {R : α → β → Prop} : ∀ {xs : List α} {ys : List β} {i : Nat} {x : α} {y : β}, Paired R xs ys → xs[i]? = some x → ys[i]? = some y → R x y
  | _, _, 0, _, _, .cons a _, h1, h2 => by
    simp only [List.getElem?_cons_zero, Option.some.injEq] at h1 h2
    rw [← h1, ← h2]
    exact a
  | _, _, i + 1, _, _, .cons _ t, h1, h2 => by
    simp only [List.getElem?_cons_succ] at h1 h2
    exact paired_at t h1 h2
theorem sqL_tab {K : PySem.W.Frag} {H H2 : Hp} {a P : Addr} {xs : List V} {ps : Array Value} (k : Kp [P] H H2) (hP : H P = some (.tbl ps)) (h : SqL K H a xs) : SqL K H2 a xs := by
  have n : ∀ {o : HO}, H a = some o → (∀ ps, o ≠ .tbl ps) → a ∉ [P] := fun e z m => by
    rw [List.mem_singleton.mp m, hP] at e
    exact z ps (Option.some.inj e).symm
  rcases h with (h | ⟨o, h⟩) | h
  · exact .inl (.inl (k _ _ (n h fun _ z => by cases z) h))
  · exact .inl (.inr ⟨o, k _ _ (n h fun _ z => by cases z) h⟩)
  · exact .inr h
theorem sqT_tab {K : PySem.W.Frag} {H H2 : Hp} {a P : Addr} {xs : List V} {ps : Array Value} (k : Kp [P] H H2) (hP : H P = some (.tbl ps)) (h : SqT K H a xs) : SqT K H2 a xs := by
  have n : ∀ {o : HO}, H a = some o → (∀ ps, o ≠ .tbl ps) → a ∉ [P] := fun e z m => by
    rw [List.mem_singleton.mp m, hP] at e
    exact z ps (Option.some.inj e).symm
  rcases h with (h | ⟨o, h⟩) | h
  · exact .inl (.inl (k _ _ (n h fun _ z => by cases z) h))
  · exact .inl (.inr ⟨o, k _ _ (n h fun _ z => by cases z) h⟩)
  · exact .inr h
theorem pe_sortKey {c P : Addr} {pa qn : Str} {params : Arguments} {scope : Scope} {e : Expr} {te : TE} {j : Nat} {p pos lpos kpos p1 p2 p3 : Pos} (hg : Gl X "sorted") (hm : X.mg "sorted" = none) (he : PE X e te) (TB : TabB X.base X.mg c P) (hcode : X.env.code = .ref c) (hqn : X.env.qual ++ "<lambda>" = qn)
    (hr : Room 1 X.A) (S : NdefX.NScope [pa] [pa] [] scope) (hfree : scope.names.all (fun y => !decide (y.2 = .free)) = true) (hclo : cloFrom X.env.cells scope.names [] = []) (hdef : defaultsOf params X.env = ([], []) := by rfl)
    (hb : ∀ (q : Str) (pm cv ctv u : Value), bindArgs (PySem.W.kla_fn "<lambda>" q params (.Subscript (.Name pa p1) (.Constant (.int 0) j p2) p3) scope [] pm cv ctv) ⟨[u], []⟩ = pure [(pa, u)]) (hpa : (pa == ("__debug__" : Str)) = false := by decide)
    (hs0 : starEach [e] X.env = (false, eval e X.env) :: starEach [] X.env := by rfl) (hse : backTo pos (starEach [e] X.env) = (false, eval e X.env) :: backTo pos (starEach [] X.env) := by rfl) (hpl : (backTo pos (starEach [e] X.env)).any (·.1) = false := by rfl) :
    PE X (.Call (.Name "sorted" p) [e] [⟨some "key", .Lambda params (.Subscript (.Name pa p1) (.Constant (.int 0) j p2) p3) scope lpos, kpos⟩] pos) (tSortKey X.K P qn te) := by
  subst hqn
  refine ⟨fun pins s σ H Q I h => ?_⟩
  refine wpAny_Call_Name_kw (ld_blt I hg hm (by decide +kernel : bootBuiltins "sorted" = some (.builtin "sorted")) ?_)
  let R : List V → Hp → Prop := fun vs H1 => match vs with
    | [x] => LamX.TabS H1 P (X.env.qual ++ "<lambda>") ∧ ∃ a xs ks, x = .ref a ∧ (SqL X.K H1 a xs ∨ SqT X.K H1 a xs) ∧ Paired (fun (k : Int) (y : V) => ∃ t r, y = .ref t ∧ SqT X.K H1 t (.int k :: r)) ks xs ∧ ∀ H2 ys p, Kp [P] H1 H2 → LamX.TabS H2 P (X.env.qual ++ "<lambda>") → H2 p = none → ByKey ks xs ys → Q (.ref p) (upd H2 p (.lst ys))
    | _ => False
  refine PyProof.Rows.callWith_kw (thn ((pa_cons he pa_nil hs0).run pos pins s σ H R I h) fun us s1 ⟨vs, H1, I1, r1, q1⟩ => ?_) hse hpl
  cases r1 with
  | nil => exact (show False from q1).elim
  | cons rx rt => cases rt with
    | cons _ _ => exact (show False from q1).elim
    | nil =>
      obtain ⟨hT, a, xs, ks, rfl, hx, hp, q⟩ := q1
      cases rx
      have has : ∀ y ∈ scope.names, y.2 = .free → ∃ c, X.env.cells.lookup y.1 = some c := fun y m e => by
        have := List.all_eq_true.mp hfree y m
        rw [e] at this
        simp at this
      show wpAny _ _ (evalAll [do let v ← eval (.Lambda params (.Subscript (.Name pa p1) (.Constant (.int 0) j p2) p3) scope lpos) X.env; standAt pos; pure v]) _ _ _
      refine wpAny_evalAll_cons (wpAny_bind (lam_make3 I1 TB hcode hT hdef has fun f c' pm ctv H2 s' I2 eN T2 hf hco => wpAny_bind (wpAny_standAt (wpAny_pure (wpAny_evalAll_nil ?_)))))
      rw [hclo] at hf
      obtain ⟨ps8, hP8, _, _⟩ := hT
      show wpAny _ _ (call (.builtin "sorted") [.ref a] [(Str.ofString "key", .ref f)]) _ _ _
      obtain ⟨m, hns, _⟩ := I2.loc
      have F : Fr X.base X.env.locals s'.heap m := ⟨hns, I2.bk, Nat.le_trans I2.ok.bsz I2.ok.above⟩
      have hcc : ∃ (oc : Obj) (vs : Array Value) (t : Tok), s'.heap.get? c' = some oc ∧ oc.data = .fields vs ∧ vs[1]? = some (.str (X.env.qual ++ "<lambda>") t) := (I2.hok c' _ hco).1
      obtain ⟨oL, esL, epL, hoL, hdL, _⟩ := id hns
      have obj : ∃ (its : List Value) (o : Obj) (Tn : String) (n : Nat), Vals xs its ∧ s'.heap.get? a = some o ∧ o.cls = .type Tn ∧ (Tn = "list" ∨ Tn = "tuple") ∧ o.data = .seq its.toArray n ∧ xs.length ≤ sizeLine := by
        rcases hx with hx | hx
        · obtain ⟨its, r, ⟨o, n, h1, h2, h3, h4⟩, hz⟩ := I2.list (sqL_tab eN hP8 hx)
          exact ⟨its, o, "list", n, r, h1, h2, .inl rfl, h4, hz⟩
        · obtain ⟨its, r, ⟨o, h1, h2, n, h3⟩, hz⟩ := I2.tuple (sqT_tab eN hP8 hx)
          exact ⟨its, o, "tuple", n, r, h1, h2, .inr rfl, h3, hz⟩
      obtain ⟨its, o, Tn, n, rv, ho, hcl, hTn, hd, hz⟩ := obj
      have lv := rv.length
      refine srt_key (kz := ks) F (news_all X.base X.env.locals s'.heap I2.bk) ho hcl hTn hd (by omega) (by rw [paired_len hp, lv]) (fun i v k hv hk g tk own F' N' => ?_) fun D g tk out cc F' N' hD ko => ?_
      · have kk := news_keep I2.bk F' N'
        obtain ⟨y, hy, rv1⟩ : ∃ y, xs[i]? = some y ∧ RelV y v := by
          have : i < xs.length := by rw [lv]; exact (List.getElem?_eq_some_iff.mp hv).1
          exact ⟨_, List.getElem?_eq_getElem this, paired_at rv (List.getElem?_eq_getElem this) hv⟩
        obtain ⟨t, r, rfl, ht⟩ := paired_at hp hk hy
        cases rv1
        obtain ⟨its2, rr, ⟨ot, e1, e2, nt, e3⟩, _⟩ := I2.tuple (sqT_tab eN hP8 ht)
        cases rr with
        | cons ra rb =>
          obtain ⟨tkk, rfl⟩ := ra
          have neL : ∀ {b : Addr} {o : Obj}, s'.heap.get? b = some o → (∀ es ep, o.data ≠ .dict es ep) → b ≠ X.env.locals := fun e n z => by
            rw [z, hoL] at e
            cases e
            exact n _ _ hdL
          obtain ⟨oc, cs, tq, g1, g2, g3⟩ := hcc
          refine lam_turn (h₀ := X.base) (by have := hr.dp; show X.A.depth + 3 < _; omega) F' N' (I2.ok.mod.nolimit.keeps F'.keep) (kk _ _ (neL hf fun _ _ z => by cases z) hf) ⟨oc, cs, tq, kk _ _ (neL g1 fun _ _ z => by rw [g2] at z; cases z) g1, g2, g3⟩ S hpa (hb _ _ _ _) ⟨ot, kk _ _ (neL e1 fun _ _ z => by rw [e3] at z; cases z) e1, e2, nt, e3⟩
      · obtain ⟨ys, bk, rys⟩ := by_key rv ko
        have kk := news_keep (own := []) I2.bk F' fun p hp => N' p (List.mem_cons_of_mem _ (by rwa [List.append_nil] at hp))
        have hDg := (N' _ List.mem_cons_self).1
        have hl : ys.length ≤ sizeLine := by
          obtain ⟨ps, hp1, rfl, _⟩ := bk
          rw [List.length_map, hp1.length_eq, List.length_zip]
          omega
        exact ⟨.ref D, _, Kb.Inv.butL (t' := tk) (ob := .lst ys) I2 hns F'.ns kk hD ⟨hl, out.toList, cc, rys, by rw [Array.toArray_toList]; exact hDg⟩, rfl, q H2 ys D eN T2 (I2.hok.fresh hD) bk⟩
end
end Kb

/-! ### a, b, *c = a tuple -/
namespace Kb
open PySem PySem.Spec PyProof.Rows L2
section
variable {prog : Program} {w : World} {A : Around} {E : Value → Shared → Prop} {s : Shared}
theorem walks_tupFrom (hh : A.handled = none) (I ax : Addr) (hne : ax ≠ I) (items : Array Value) (k : Nat) (hk : k ≤ items.size) :
    WalksS prog w A I [I, ax] [I] (fun a b => b = a) (items.size - k) (fun i v => items[k + i]? = some v) (fun i s => s.heap.IsTupleIter I ax (k + i) ∧ s.heap.IsTuple ax items) where
  sub := fun b hb => by simp at hb; simp [hb]
  grefl := fun _ => rfl
  gtrans := fun _ _ _ a b => b.trans a
  frame := fun i s h' tk st _ hk => ⟨st.1.at fun o e => hk I (by simp) o e, st.2.at fun o e => hk ax (by simp) o e⟩
  item := fun i s Q E hi st hQ => by
    refine wpAny_pyNext_tuple_item st.1 st.2 (x := items[k + i]) (by simp) fun h' hit' hs' => ?_
    exact hQ _ _ (by simp) ⟨hit', st.2.extBut hs'.extBut hne⟩ ⟨fun b o hb e => hs'.extBut b o (fun z => hb (by simp [z])) e, rfl, rfl, rfl, Nat.le_refl _⟩
  done := fun s Q E st hQ => wpAny_pyNext_tuple_end hh st.1 st.2 (by simp; omega) fun h' he' => hQ _ ⟨fun b o hb e => he' b o (fun z => hb (by simp [z])) e, rfl, rfl, rfl, Nat.le_refl _⟩
  self := fun _ _ _ _ st hQ => wpAny_pyIter_tupleiter st.1 hQ
theorem unpack_star {t : Addr} {items : Array Value} {n : Nat} {Q : List Value → Shared → Prop} (hh : A.handled = none) (ht : s.heap.IsTuple t items) (hn : n ≤ items.size) (hz : items.size ≤ sizeLine)
    (q : ∀ (g : Heap) (tk : Nat), (∀ b o, s.heap.get? b = some o → g.get? b = some o) → Q (items.toList.take n ++ [.ref g.objs.size]) { s with heap := g.push { cls := .type "list", data := .seq (items.toList.drop n).toArray }, toks := tk }) :
    wpAny (model prog w) A (unpackItems (.ref t) (n + 1) (some n)) Q E s := by
  have hlt : t < s.heap.objs.size := let ⟨o, ho, _⟩ := ht; Heap.lt_size ho
  have hne : t ≠ s.heap.objs.size := Nat.ne_of_lt hlt
  unfold unpackItems
  refine wpAny_bind ?_
  unfold notIterableAtAll
  refine wpAny_bind (wpAny_specialOf ht.typeIs F.slot_tuple_iter.lookup ?_)
  refine wpAny_pure ?_
  simp only [Bool.false_eq_true, if_false]
  refine wpAny_bind (wpAny_holding (wpAny_pyIter_tuple ht ?_))
  have ti : (s.heap.push { cls := .type "tuple_iterator", data := .fields #[.ref t, rawInt 0] }).IsTupleIter s.heap.objs.size t 0 := ⟨_, Heap.get?_push_size _ rfl, rfl, rfl⟩
  refine wpAny_bind (wpAny_holding (wpAny_draw_tuple hne n 0 _ _ ti (ht.push _) (by omega) fun h1 it1 hs1 => ?_))
  rw [List.drop_zero, Nat.zero_add] at *
  rw [if_neg (by rw [List.length_take, Array.length_toList]; omega)]
  have k1 : ∀ b o, s.heap.get? b = some o → h1.get? b = some o := fun b o e => hs1.extBut b o (Nat.ne_of_lt (Heap.lt_size e)) (Heap.get?_push_of_some _ e)
  have ht1 : h1.IsTuple t items := ht.at fun o e => k1 _ _ e
  have W := walks_tupFrom (prog := prog) (w := w) (A := A.in1) hh s.heap.objs.size t hne items n hn
  refine wpAny_bind (wpAny_holding (wpAny_collect_iter (T := "tuple_iterator") (.inr (.inr (.inr rfl))) W (fun i s' st => ?_) ⟨it1, ht1⟩ (fun b hb => ?_) (by simp) (fun s' acc mv io => ?_) (by omega)))
  · obtain ⟨⟨o, ho, hc, _⟩, _⟩ := st
    exact ⟨o, ho, hc⟩
  · simp only [List.mem_cons, List.not_mem_nil, or_false] at hb
    rcases hb with rfl | rfl
    · obtain ⟨o, ho, _⟩ := it1
      exact Heap.lt_size ho
    · obtain ⟨o, ho, _⟩ := ht1
      exact Heap.lt_size ho
  · obtain ⟨a1, a2⟩ := io
    have ea : acc.toList = items.toList.drop n := by
      refine List.ext_getElem? fun j => ?_
      rw [Array.getElem?_toList, List.getElem?_drop, Array.getElem?_toList]
      cases e : acc[j]? with
      | some v => exact (a2 j v e).symm
      | none =>
        have : items.size - n ≤ j := by rw [← a1]; exact Array.getElem?_eq_none_iff.mp e
        exact (Array.getElem?_eq_none_iff.mpr (by omega)).symm
    have z : n + 1 - 1 - n = 0 := by omega
    rw [z, if_neg (Nat.not_lt_zero _), Nat.sub_zero, List.take_length, List.drop_length, ea]
    have kk : ∀ b o, s.heap.get? b = some o → s'.heap.get? b = some o := fun b o e => mv.heap b o (by rw [List.mem_singleton]; exact Nat.ne_of_lt (Heap.lt_size e)) (k1 b o e)
    have es : s' = { s with heap := s'.heap, toks := s'.toks } := by
      obtain ⟨hh', g', d', t', o'⟩ := s'
      obtain ⟨_, m2, m3, m4, _⟩ := mv
      cases m2
      cases m3
      cases m4
      rfl
    rw [es]
    refine wpAny_bind (wpAny_newList (wpAny_pure ?_) (by rw [List.length_drop, Array.length_toList]; omega))
    rw [List.append_nil]
    exact q s'.heap s'.toks kk
end
def gStar (K : PySem.W.Frag) (n : Nat) (t : TGs) : TG := fun v σ H Q => ∃ a xs, v = .ref a ∧ SqT K H a xs ∧ n ≤ xs.length ∧ ∀ p, H p = none → t (xs.take n ++ [.ref p]) σ (upd H p (.lst (xs.drop n))) Q
section
variable {X : Cx} {pos : Pos}
theorem pgs_star {e : Expr} {t : TG} {p : Pos} (h1 : PG X e t) : PGs X [.Starred e p] (gCons t gNil) := by
  refine ⟨fun pins s σ H vs us Q I r h => ?_⟩
  obtain ⟨v, vr, e1, h⟩ := h
  subst e1
  cases r with
  | cons r rr =>
    show wpAny _ _ (assignInOrder [assign e X.env] _) _ _ _
    refine assignInOrder_cons (thn (h1.run pins s σ H _ _ _ I r h) fun _ s1 ⟨σ1, H1, I1, q1⟩ => ?_)
    exact (pgs_nil (X := X)).run pins s1 σ1 H1 _ _ Q I1 rr q1
theorem pg_star {es : List Expr} {k n : Nat} {t : TGs} (hc : X.calm = true) (h : PGs X es t) (hn : (assignEach es X.env).length = n + 1 := by rfl) (hst : (assignEach es X.env).findIdx? (·.1) = some n := by rfl) : PG X (.Tuple es k pos) (gStar X.K n t) := by
  refine ⟨fun pins s σ H v u Q I r hw => ?_⟩
  obtain ⟨a, xs, e1, hq, hl, hw⟩ := hw
  subst e1
  cases r
  obtain ⟨its, rv, ht, hz⟩ := I.tuple hq
  have lv := rv.length
  rw [assign_Tuple]
  refine wpAny_bind (wpAny_standAt ?_)
  unfold unpack
  rw [hn, hst]
  refine wpAny_bind (wpAny_holding (unpack_star (items := its.toArray) (I.ok.hd hc) ht (by rw [List.size_toArray]; omega) (by rw [List.size_toArray]; omega) fun g tk kk => ?_))
  have I1 : Inv X pins σ H { s with heap := g, toks := tk } := I.kept kk
  have vt := rv.take n
  have I2 := I1.lnew (t' := tk) (rv.drop n) (by rw [List.length_drop]; omega)
  exact h.run pins _ σ _ _ _ Q I2 (vt.append (.cons (show RelV (.ref g.objs.size) (.ref g.objs.size) from rfl) .nil)) (hw _ (I1.hok.fresh (Nat.le_refl _)))
/-- o.f = .. as a target -/
def gFldU (K : PySem.W.Frag) (ta : TE) (f : Str) : TG := fun y σ H Q => ta σ H fun x H2 => rPutU K f x y H2 fun H3 => Q σ H3
theorem pg_attr {o : Expr} {f : Str} {ta : TE} (ha : PE X o ta)
    (he : ∀ v, assign (.Attribute o f pos) X.env v = (holding [v] (eval o X.env) >>= fun ov => standAt pos.atName >>= fun _ => holding [v, ov] (setAttr ov f v) >>= fun _ => release [v, ov] []) := by intro _; rfl) : PG X (.Attribute o f pos) (gFldU X.K ta f) := by
  refine ⟨fun pins s σ H y u Q I ry h => ?_⟩
  unfold gFldU rPutU at h
  rw [he]
  refine wpAny_bind (wpAny_holding (thn (ha.run pins s σ H _ I h) fun ov s1 ⟨x, H1, I1, rx, a, C, dx, fs, ex, ea, c, n, l, q⟩ => ?_))
  subst ex
  obtain rfl : ov = Value.ref a := rx
  refine wpAny_bind (wpAny_standAt (wpAny_bind (wpAny_holding (setattr_ok I1 ea c n l ry fun s3 I3 => ?_))))
  exact wpAny_release ⟨σ, _, I3, q⟩
end
end Kb

/-! ### == of nested lists, tuples and dicts that are equal -/
namespace Kb
open PySem PySem.Spec PyProof.Rows L2
section
variable {prog : Program} {w : World}
/-- two tuples whose things are equal one by one -/
theorem tup_eqP (l b : Addr) (us ws : Array Value) (n m : Nat) (d1 d2 : Option Addr) (sl1 sl2 : Array (Option Value)) (hsz : us.size = ws.size) : MeetsIn prog w (Builtin.«tuple.__eq__» ⟨[.ref l, .ref b], []⟩) (fun A R s => s.heap.get? l = some ⟨.type "tuple", d1, .seq us n, sl1⟩ ∧ s.heap.get? b = some ⟨.type "tuple", d2, .seq ws m, sl2⟩ ∧
    (∀ j (h1 : j < us.size) (h2 : j < ws.size), SeqAt.EqP prog w A.in1 s us[j] ws[j] true) ∧ R (.ok (.ret (.bool true))) s) := by
  intro A R s hh
  obtain ⟨hp, gs, dr, tk, os⟩ := s
  obtain ⟨hl, hb, he, q⟩ := hh
  have sub := AutoSeq1.sub_tuple_tuple
  have hz : (us.toList.zip ws.toList).length = us.size := by simp [hsz]
  wp_walk using PySem.AutoSeq1.wpAny_loadPart' hl, PySem.AutoSeq1.wpAny_loadPart' hb, wpAny_forIn_list _ (fun rest b s' => b.1 = none ∧ s' = ⟨hp, gs, dr, tk, os⟩ ∧ ∃ i, rest = (us.toList.zip ws.toList).drop i) _
  case turn =>
    rintro ⟨y, x⟩ rest b s' ⟨_, rfl, i, ez⟩
    have lt : i < (us.toList.zip ws.toList).length := by
      by_cases h : i < (us.toList.zip ws.toList).length
      · exact h
      · rw [List.drop_of_length_le (by omega)] at ez
        cases ez
    have i1 : i < us.size := by omega
    have i2 : i < ws.size := by omega
    rw [List.drop_eq_getElem_cons lt] at ez
    obtain ⟨e1, e2⟩ := List.cons.inj ez
    have ey : y = us[i] := by simpa using congrArg Prod.fst e1
    have ex : x = ws[i] := by simpa using congrArg Prod.snd e1
    rw [ey, ex]
    refine wpAny_bind (he i i1 i2 _ _ ?_)
    wp_walk
    exact ⟨rfl, rfl, i + 1, e2⟩
  case fin =>
    rintro ⟨b1, b2⟩ s' ⟨e0, rfl, _⟩
    cases e0
    wp_walk
    simpa [Builtin.Tuple.tupleCompareSizes, hsz] using q
  case h => exact ⟨rfl, rfl, 0, rfl⟩
theorem rcP_tups {A : Around} {s : Shared} {l b : Addr} {us ws : Array Value} (hl : IsTup s.heap l us) (hb : IsTup s.heap b ws) (hsz : us.size = ws.size) (hu : A.units < cLine) (he : ∀ j (h1 : j < us.size) (h2 : j < ws.size), SeqAt.EqP prog w A.in1 s us[j] ws[j] true)
    (E Q : Value → Shared → Prop) (q : Q (.bool true) s) : wpAny (model prog w) A (richCompare .Eq (.ref l) (.ref b)) Q E s := by
  obtain ⟨⟨c1, d1, da1, sl1⟩, h1, e1, n, f1⟩ := id hl
  obtain ⟨⟨c2, d2, da2, sl2⟩, h2, e2, m, f2⟩ := id hb
  simp only at e1 f1 e2 f2
  subst e1 f1 e2 f2
  have ta : s.TypeIs (.ref l) "tuple" := ⟨_, h1, rfl⟩
  exact wpAny_richCompare_same_room (op := .Eq) ta ⟨_, h2, rfl⟩ F.slot_tuple_eq (call_meetsIn F.slot_tuple_eq ta F.entry_tuple_eq (F.args_tuple_eq_2 _ _) (tup_eqP l b us ws n m d1 d2 sl1 sl2 hsz) ⟨h1, h2, he, (fun x => nomatch x), q⟩) hu
end
def EqT (K : PySem.W.Frag) (H : Hp) (E : V → V → Prop) (x y : V) : Prop := ∃ a b xs ys, x = .ref a ∧ y = .ref b ∧ SqT K H a xs ∧ SqT K H b ys ∧ Paired E xs ys
/-- equal, of nesting below n -/
def EqW (K : PySem.W.Frag) (H : Hp) : Nat → V → V → Prop
  | 0 => fun _ _ => False
  | n + 1 => fun x y => (x = y ∧ flatB x = true) ∨ (∃ a, x = .ref a ∧ y = .ref a) ∨ EqR K H (EqW K H n) x y ∨ EqT K H (EqW K H n) x y
section
variable {X : Cx} {pins : List (Addr × Obj)} {σ : L2.St} {H : Hp} {s : Shared}
theorem eqT_run (I : Inv X pins σ H s) {A : Around} {F : V → V → Prop} (hu : A.units < cLine) (ih : ∀ x y v u, F x y → RelV x v → RelV y u → SeqAt.EqP X.prog X.w A.in1 s v u true) {x y : V} {v u : Value} (h : EqT X.K H F x y) (rx : RelV x v) (ry : RelV y u) (E Q : Value → Shared → Prop) (q : Q (.bool true) s) : wpAny (model X.prog X.w) A (richCompare .Eq v u) Q E s := by
  obtain ⟨a, b, xs, ys, rfl, rfl, ha, hb, hp⟩ := h
  cases rx
  cases ry
  obtain ⟨us, r1, p1, _⟩ := I.tuple ha
  obtain ⟨ws, r2, p2, _⟩ := I.tuple hb
  have hsz : us.toArray.size = ws.toArray.size := by rw [List.size_toArray, List.size_toArray, ← r1.length, ← r2.length, Paired.length hp]
  exact rcP_tups p1 p2 hsz hu (fun j h1 h2 => by simpa using items_run ih hp r1 r2 j (by simpa using h1) (by simpa using h2)) E Q q
theorem eqW_run (I : Inv X pins σ H s) : ∀ (n : Nat) (A : Around), A.units + n < cLine → ∀ (x y : V) (v u : Value), EqW X.K H n x y → RelV x v → RelV y u → SeqAt.EqP X.prog X.w A s v u true
  | 0, _, _, _, _, _, _, h, _, _ => h.elim
  | n + 1, A, hu, x, y, v, u, h, rx, ry => by
    have ih := eqW_run I n A.in1 (by show A.units + 1 + n < cLine; omega)
    have fin : ∀ {a b : Addr}, x = .ref a → y = .ref b → (∀ E Q, Q (.bool true) s → wpAny (model X.prog X.w) A (richCompare .Eq v u) Q E s) → SeqAt.EqP X.prog X.w A s v u true := fun {a b} e1 e2 st => by
      subst e1
      subst e2
      cases rx
      cases ry
      by_cases e : a = b
      · rw [e]
        exact (SeqAt.EqAt.same _).eqP
      · exact SeqAt.eqP_refs e st
    rcases h with ⟨rfl, f⟩ | ⟨a, rfl, rfl⟩ | h | h
    · exact (eqAt_same rx ry f).eqP
    · cases rx
      cases ry
      exact (SeqAt.EqAt.same _).eqP
    · have st := eqR_run I (A := A) (by omega) ih h rx ry
      rcases h with ⟨a, b, _, _, e1, e2, _⟩ | ⟨a, b, _, _, e1, e2, _⟩
      · exact fin e1 e2 st
      · exact fin e1 e2 st
    · have st := eqT_run I (A := A) (by omega) ih h rx ry
      obtain ⟨a, b, _, _, e1, e2, _⟩ := h
      exact fin e1 e2 st
end
/-- a list or a tuple against an empty one -/
def rEqE (K : PySem.W.Frag) : R2 := fun x y H Q => ∃ a b xs, x = .ref a ∧ y = .ref b ∧ ((SqL K H a xs ∧ SqL K H b []) ∨ (SqT K H a xs ∧ SqT K H b [])) ∧ Q (.bl xs.isEmpty) H
theorem op_eqE {X : Cx} (hu : X.A.units + 64 < cLine) : OpR X (compareOp .Eq) (rEqE X.K) := by
  intro pins s σ H x y v u Q I rx ry h
  obtain ⟨a, b, xs, rfl, rfl, h, q⟩ := h
  cases rx
  cases ry
  rcases h with ⟨ha, hb⟩ | ⟨ha, hb⟩
  · obtain ⟨us, r1, p1, _⟩ := I.list ha
    obtain ⟨ws, r2, p2, _⟩ := I.list hb
    cases r2
    have l1 := r1.length
    cases us with
    | nil =>
      obtain rfl := List.length_eq_zero_iff.mp l1
      exact SeqAt.eq_listAt (e := fun _ => true) p1.isList p2.isList rfl (by omega) (fun j h1 h2 => absurd h2 (Nat.not_lt_zero _)) ⟨.bl true, H, I, rfl, q⟩
    | cons c r =>
      have e : xs.isEmpty = false := by cases xs <;> simp_all
      rw [e] at q
      exact SeqAt.eq_list_lengthsAt p1.isList p2.isList (by simp) (by omega) ⟨.bl false, H, I, rfl, q⟩
  · obtain ⟨us, r1, p1, _⟩ := I.tuple ha
    obtain ⟨ws, r2, p2, _⟩ := I.tuple hb
    cases r2
    have l1 := r1.length
    refine SeqAt.eq_tupleAt (e := fun _ => true) p1 p2 (by omega) (fun j h1 h2 => absurd h2 (Nat.not_lt_zero _)) ⟨.bl xs.isEmpty, H, I, ?_, q⟩
    have e : ((List.range (min us.toArray.size ([] : List Value).toArray.size)).all fun _ => true) = true := List.all_eq_true.mpr fun _ _ => rfl
    rw [e]
    cases xs <;> cases us <;> simp_all [L2.RelV]
/-- a dict against an empty one -/
def rEqDE : R2 := fun x y H Q => ∃ a b ks, x = .ref a ∧ y = .ref b ∧ H a = some (.dK ks) ∧ H b = some (.dK []) ∧ Q (.bl ks.isEmpty) H
theorem op_eqDE {X : Cx} (hu : X.A.units < cLine) : OpR X (compareOp .Eq) rEqDE := by
  intro pins s σ H x y v u Q I rx ry h
  obtain ⟨a, b, ks, rfl, rfl, ha, hb, q⟩ := h
  cases rx
  cases ry
  obtain ⟨_, ya, va, ra, da⟩ := (show ObjOk X.prog X.w H s.heap a (.dK ks) from I.hok a _ ha)
  obtain ⟨_, yb, vb, rb, db⟩ := (show ObjOk X.prog X.w H s.heap b (.dK []) from I.hok b _ hb)
  have lb : vb.length = 0 := rb.length.symm
  have la := ra.length
  refine PySem.W.keq_eq (knd := mixKind X.prog X.w) (r := true) ya yb da db hu (fun e => ?_) ⟨.bl ks.isEmpty, H, I, ?_, q⟩
  · have z : va.length = 0 := by simpa [lb] using e
    obtain rfl := List.length_eq_zero_iff.mp z
    exact .nil
  · show Value.bool _ = Value.bool _
    rw [lb, ← la]
    cases ks <;> simp
/-- x == y by the joined rule, or two lists, tuples or dicts that are equal, or one that is empty -/
def rEqX (K : PySem.W.Frag) : R2 := fun x y H Q => rEqU K x y H Q ∨ (∃ n, n ≤ 60 ∧ (EqR K H (EqW K H n) x y ∨ EqT K H (EqW K H n) x y) ∧ Q (.bl true) H) ∨ rEqE K x y H Q ∨ rEqDE x y H Q
theorem u_eqX {X : Cx} (hu : X.A.units + 64 < cLine) : OpR X (compareOp .Eq) (rEqX X.K) := by
  intro pins s σ H x y v u Q I rx ry h
  rcases h with h | ⟨n, hn, h, q⟩ | h | h
  · exact u_eq hu pins s σ H x y v u Q I rx ry h
  · have ih := eqW_run I n X.A.in1 (by show X.A.units + 1 + n < cLine; omega)
    rcases h with h | h
    · exact eqR_run I (A := X.A) (by omega) ih h rx ry _ _ ⟨.bl true, H, I, rfl, q⟩
    · exact eqT_run I (A := X.A) (by omega) ih h rx ry _ _ ⟨.bl true, H, I, rfl, q⟩
  · exact op_eqE hu pins s σ H x y v u Q I rx ry h
  · exact op_eqDE (by omega) pins s σ H x y v u Q I rx ry h
theorem eqDE_go {K : PySem.W.Frag} {H : Hp} {Q : VK} {a b : Addr} {ks : List (L2.Key × V)} (ha : H a = some (.dK ks)) (hb : H b = some (.dK [])) (q : Q (.bl ks.isEmpty) H) : rEqX K (.ref a) (.ref b) H Q := .inr (.inr (.inr ⟨a, b, ks, rfl, rfl, ha, hb, q⟩))
theorem eqET_go {K : PySem.W.Frag} {H : Hp} {Q : VK} {a b : Addr} {xs : List V} (ha : SqT K H a xs) (hb : SqT K H b []) (q : Q (.bl xs.isEmpty) H) : rEqX K (.ref a) (.ref b) H Q := .inr (.inr (.inl ⟨a, b, xs, rfl, rfl, .inr ⟨ha, hb⟩, q⟩))
theorem eqEL_go {K : PySem.W.Frag} {H : Hp} {Q : VK} {a b : Addr} {xs : List V} (ha : SqL K H a xs) (hb : SqL K H b []) (q : Q (.bl xs.isEmpty) H) : rEqX K (.ref a) (.ref b) H Q := .inr (.inr (.inl ⟨a, b, xs, rfl, rfl, .inl ⟨ha, hb⟩, q⟩))
theorem eqX_no {K : PySem.W.Frag} {H : Hp} {Q : VK} {x y : V} (h : rEqU K x y H Q) : rEqX K x y H Q := .inl h
/-! ### a text over and over; min of a list; str.index -/
def rRepS : R2 := fun x y H Q => ∃ (z : Str) (k : Int), x = .str z ∧ y = .int k ∧ 2 ≤ k ∧ k ≤ 1000 ∧ 0 < z.length ∧ z.length ≤ 1000 ∧ Q (.str ⟨(List.replicate k.toNat z.cps).foldl (· ++ ·) #[]⟩) H
theorem fold_size (a : Array Nat) : ∀ (n : Nat) (acc : Array Nat), ((List.replicate n a).foldl (· ++ ·) acc).size = acc.size + n * a.size
  | 0, acc => by simp
  | n + 1, acc => by
    rw [List.replicate_succ, List.foldl_cons, fold_size a n, Array.size_append, Nat.succ_mul]
    omega
theorem op_repS {X : Cx} : OpR X (binaryOp .Mult) rRepS := by
  intro pins s σ H x y v u Q I rx ry h
  obtain ⟨z, k, rfl, rfl, h1, h2, h3, h4, q⟩ := h
  obtain ⟨t, rfl⟩ := rx
  obtain ⟨t', rfl⟩ := ry
  have a1 : (decide (k < -(2 ^ 63 : Int)) || decide (k ≥ 2 ^ 63)) = false := by
    rw [decide_eq_false (by omega), decide_eq_false (by omega)]
    rfl
  have n1 : (k == 1 || z.length == 0) = false := by
    have e1 : (k == 1) = false := by simp; omega
    have e2 : (z.length == 0) = false := by simp; omega
    rw [e1, e2]
    rfl
  have m1 : k.toNat ≤ 1000 := by omega
  have z1 : z.length * k.toNat ≤ 1000 * 1000 := Nat.mul_le_mul h4 m1
  refine PySem.P.mul_str a1 (fun _ _ => ?_) (fun _ _ => ?_) ?_
  · have h5 : (z.length : Int) ≤ (2 ^ 63 - 1) / k := Int.le_ediv_of_mul_le (by omega) (by
      have : (z.length : Int) * k ≤ 1000 * 1000 := Int.mul_le_mul (by omega) h2 (by omega) (by decide)
      omega)
    omega
  · have h5 : ¬ z.length * k.toNat > sizeLine := by
      have : (1000 * 1000 : Nat) ≤ sizeLine := by decide
      omega
    exact decide_eq_false h5
  · rw [if_neg (by omega), if_neg (by rw [n1]; exact Bool.false_ne_true)]
    refine ⟨?_, .str ⟨(List.replicate k.toNat z.cps).foldl (· ++ ·) #[]⟩, H, I.tok _, ⟨_, rfl⟩, q⟩
    show ((List.replicate k.toNat z.cps).foldl (· ++ ·) #[]).size ≤ sizeLine
    rw [fold_size]
    have z2 : k.toNat * z.cps.size ≤ 1000 * 1000 := by rw [Nat.mul_comm]; exact z1
    have : (1000 * 1000 : Nat) ≤ sizeLine := by decide
    show 0 + _ ≤ _
    omega
end Kb

/-! ### != of equal lists of lists and tuples, nested -/
namespace Kb
open PySem PySem.Spec PyProof.Rows L2
/-- equal lists and tuples, of nesting below n -/
def EqN (K : PySem.W.Frag) (H : Hp) : Nat → V → V → Prop
  | 0 => fun _ _ => False
  | n + 1 => fun x y => (x = y ∧ flatB x = true) ∨ (∃ a, x = .ref a ∧ y = .ref a) ∨ ∃ a b xs ys, x = .ref a ∧ y = .ref b ∧ ((SqL K H a xs ∧ SqL K H b ys) ∨ (SqT K H a xs ∧ SqT K H b ys)) ∧ Paired (EqN K H n) xs ys
theorem itemsAt_run {A : Around} {s : Shared} {F : V → V → Prop} (ih : ∀ x y v u, F x y → RelV x v → RelV y u → SeqAt.EqAt A s v u true) {xs ys : List V} (hp : Paired F xs ys) :
    ∀ {us ws : List Value}, Vals xs us → Vals ys ws → ∀ j (h1 : j < us.length) (h2 : j < ws.length), SeqAt.EqAt A s us[j] ws[j] true := by
  induction hp with
  | nil =>
    intro us ws r1 r2 j h1 h2
    cases r1
    exact absurd h1 (Nat.not_lt_zero j)
  | cons h _ k =>
    intro us ws r1 r2 j h1 h2
    cases r1 with
    | cons a1 b1 =>
      cases r2 with
      | cons a2 b2 =>
        cases j with
        | zero => exact ih _ _ _ _ h a1 a2
        | succ j => exact k b1 b2 j (Nat.lt_of_succ_lt_succ h1) (Nat.lt_of_succ_lt_succ h2)
section
variable {X : Cx} {pins : List (Addr × Obj)} {σ : L2.St} {H : Hp} {s : Shared}
theorem eqN_run (I : Inv X pins σ H s) : ∀ (n : Nat) (A : Around), A.units + n < cLine → ∀ (x y : V) (v u : Value), EqN X.K H n x y → RelV x v → RelV y u → SeqAt.EqAt A s v u true
  | 0, _, _, _, _, _, _, h, _, _ => h.elim
  | n + 1, A, hu, x, y, v, u, h, rx, ry => by
    have ih := eqN_run I n A.in1 (by show A.units + 1 + n < cLine; omega)
    rcases h with ⟨rfl, f⟩ | ⟨a, rfl, rfl⟩ | ⟨a, b, xs, ys, rfl, rfl, h, hp⟩
    · exact eqAt_same rx ry f
    · cases rx
      cases ry
      exact SeqAt.EqAt.same _
    · cases rx
      cases ry
      by_cases e : a = b
      · rw [e]
        exact SeqAt.EqAt.same _
      · refine SeqAt.EqAt.of_refs e ?_
        rcases h with ⟨ha, hb⟩ | ⟨ha, hb⟩
        · obtain ⟨us, r1, p1, _⟩ := I.list ha
          obtain ⟨ws, r2, p2, _⟩ := I.list hb
          have hsz : us.toArray.size = ws.toArray.size := by rw [List.size_toArray, List.size_toArray, ← r1.length, ← r2.length, Paired.length hp]
          have q := SeqAt.RcAt.lists (e := fun _ => true) p1.isList p2.isList hsz (A := A) (s := s) (by omega) (fun j h1 h2 => by simpa using itemsAt_run ih hp r1 r2 j (by simpa using h1) (by simpa using h2))
          rwa [show ((List.range us.toArray.size).all fun _ => true) = true from List.all_eq_true.mpr fun _ _ => rfl] at q
        · obtain ⟨us, r1, p1, _⟩ := I.tuple ha
          obtain ⟨ws, r2, p2, _⟩ := I.tuple hb
          have hsz : us.toArray.size = ws.toArray.size := by rw [List.size_toArray, List.size_toArray, ← r1.length, ← r2.length, Paired.length hp]
          have q := SeqAt.RcAt.tuples (e := fun _ => true) p1 p2 (A := A) (s := s) (by omega) (fun j h1 h2 => by simpa using itemsAt_run ih hp r1 r2 j (by simpa using h1) (by simpa using h2))
          rwa [show ((List.range (min us.toArray.size ws.toArray.size)).all (fun _ => true) && us.toArray.size == ws.toArray.size) = true from by
            rw [Bool.and_eq_true]
            exact ⟨List.all_eq_true.mpr fun _ _ => rfl, by rw [hsz]; simp⟩] at q
/-- x != y by the joined rule, or two lists that are equal -/
def rNeX (K : PySem.W.Frag) : R2 := fun x y H Q => rNeU K x y H Q ∨ (∃ n a b xs ys, n ≤ 60 ∧ x = .ref a ∧ y = .ref b ∧ SqL K H a xs ∧ SqL K H b ys ∧ Paired (EqN K H n) xs ys ∧ Q (.bl false) H) ∨ ∃ a b xs, x = .ref a ∧ y = .ref b ∧ SqL K H a xs ∧ SqL K H b [] ∧ Q (.bl (!xs.isEmpty)) H
theorem u_neX {X : Cx} (hu : X.A.units + 64 < cLine) : OpR X (compareOp .NotEq) (rNeX X.K) := by
  intro pins s σ H x y v u Q I rx ry h
  rcases h with h | ⟨n, a, b, xs, ys, hn, rfl, rfl, ha, hb, hp, q⟩ | ⟨a, b, xs, rfl, rfl, ha, hb, q⟩
  · exact u_ne hu pins s σ H x y v u Q I rx ry h
  · cases rx
    cases ry
    have ih := eqN_run I n X.A.in1 (by show X.A.units + 1 + n < cLine; omega)
    obtain ⟨us, r1, p1, _⟩ := I.list ha
    obtain ⟨ws, r2, p2, _⟩ := I.list hb
    have hsz : us.toArray.size = ws.toArray.size := by rw [List.size_toArray, List.size_toArray, ← r1.length, ← r2.length, Paired.length hp]
    have k := SeqAt.RcNeAt.lists (e := fun _ => true) p1.isList p2.isList hsz (A := X.A) (s := s) (by omega) (fun j h1 h2 => by simpa using itemsAt_run ih hp r1 r2 j (by simpa using h1) (by simpa using h2))
    rw [show ((List.range us.toArray.size).all fun _ => true) = true from List.all_eq_true.mpr fun _ _ => rfl] at k
    exact k _ _ _ _ ⟨.bl false, H, I, rfl, q⟩
  · cases rx
    cases ry
    obtain ⟨us, r1, p1, _⟩ := I.list ha
    obtain ⟨ws, r2, p2, _⟩ := I.list hb
    cases r2
    have l1 := r1.length
    cases us with
    | nil =>
      obtain rfl := List.length_eq_zero_iff.mp l1
      have k := SeqAt.RcNeAt.lists (e := fun _ => true) p1.isList p2.isList rfl (A := X.A) (s := s) (by omega) (fun j h1 h2 => absurd h2 (Nat.not_lt_zero _))
      exact k _ _ _ _ ⟨.bl false, H, I, rfl, q⟩
    | cons c r =>
      have e : (!xs.isEmpty) = true := by cases xs <;> simp_all
      rw [e] at q
      exact SeqAt.RcNeAt.lists_lengths p1.isList p2.isList (by simp) (A := X.A) (s := s) (by omega) _ _ _ _ ⟨.bl true, H, I, rfl, q⟩
end
theorem neX_go {K : PySem.W.Frag} {H : Hp} {Q : VK} {n : Nat} {a b : Addr} {xs ys : List V} (hn : n ≤ 60) (ha : SqL K H a xs) (hb : SqL K H b ys) (h : Paired (EqN K H n) xs ys) (q : Q (.bl false) H) : rNeX K (.ref a) (.ref b) H Q := .inr (.inl ⟨n, a, b, xs, ys, hn, rfl, rfl, ha, hb, h, q⟩)
theorem neXE_go {K : PySem.W.Frag} {H : Hp} {Q : VK} {a b : Addr} {xs : List V} (ha : SqL K H a xs) (hb : SqL K H b []) (q : Q (.bl (!xs.isEmpty)) H) : rNeX K (.ref a) (.ref b) H Q := .inr (.inr ⟨a, b, xs, rfl, rfl, ha, hb, q⟩)
end Kb

/-! ### own classes whose __init__ has keyword-only parameters -/
namespace Kb
open PySem PySem.Spec PyProof.Rows L2
def DefK (K : PySem.W.Frag) (C : Addr) (st : Stmt) (qual : Str) (kwd : List (Str × V)) : Prop := ∃ f fd, Meth K C "__init__" f ∧ FunD K "__init__" qual (defArgs st) (defBody st) (defScope st) [] kwd f fd
structure CalK (P : Program) (w : World) (K : PySem.W.Frag) (mg : Str → Option Value) (base : Heap) (CX : CXT) (k : Nat) (C : Addr) (st : Stmt) (qual : Str) (kwd : List (Str × V)) (ps : List Str) (sp : Sp) : Prop where
  ex : ∃ f fd, Meth K C "__init__" f ∧ FnOk P w K mg base CX k f fd ps sp ∧ FunD K "__init__" qual (defArgs st) (defBody st) (defScope st) [] kwd f fd
theorem CalK.of {P : Program} {w : World} {K : PySem.W.Frag} {mg : Str → Option Value} {base : Heap} {C : Addr} {qual : Str} {st : Stmt} {kwd : List (Str × V)} {N ps : List Str} {k : Nat} {sp : Sp} (D : DefK K C st qual kwd) (S : FnScope N ps (defScope st)) (len : ∀ vs H Q E, sp vs H Q E → vs.length = ps.length)
    (hbody : ∀ (f : Addr) (cdv : Value) (A : Around) (outer : List Env) (s : Shared) (H : Hp) (vs : List V) (Q : VK) (E : XK), Room k (A.deeper (envOfC qual (defScope st) s.heap.objs.size f cdv)) → sp vs H Q E →
      ∃ t, PSs (cxOf CX0 P w K mg base N qual (defScope st) f cdv A outer s H E).nox (defBody st) t ∧ t { nx := fun _ H' => Q .non H', rt := Q } (start N vs) H) : CalK P w K mg base CX0 (k + 1) C st qual kwd ps sp := by
  obtain ⟨f, fd, hm, F⟩ := D
  exact ⟨f, fd, hm, F.ok S len fun cdv A outer s H vs Q E hr h => let ⟨t, h1, h2⟩ := hbody f cdv A outer s H vs Q E hr h; ⟨t, h1.nox, h2⟩, F⟩
/-- how a call with n things by place and some by name (ks) binds, ms being those that lack -/
def PutsK (st : Stmt) (qual : Str) (ps : List Str) (n : Nat) (ks : List Str) (ms : List (Str × V)) (g : {α : Type} → List α → List α → List α → List α) : Prop :=
  ∀ (D : Addr) (doc pm : Value) (an : Option Addr) (cdv ct : Value) (us mv ws : List Value), us.length = n → mv.length = ms.length → ws.length = ks.length →
    KwChain D ((ms.map (·.1)).zip mv) (bindArgs (PySem.W.fnOf "__init__" qual (defArgs st) (defBody st) (defScope st) .none (.ref D) doc pm an cdv ct) ⟨us, ks.zip ws⟩) (ps.zip (g us mv ws))
section
variable {X : Cx} {CX : CXT} {k n : Nat} {C : Addr} {st : Stmt} {qual : Str} {kwd ms : List (Str × V)} {ps ks : List Str} {sp : Sp} {E : XK} {x : Str} {p pos : Pos} {e : Expr} {es : List Expr} {kws : List Keyword} {t tk : TA}
theorem pe_makeKO (ms : List (Str × V)) (g : {α : Type} → List α → List α → List α → List α) (hmk : PySem.W.makesIn X.K C = true) (hkc : PySem.W.keepIn X.K (.ref C) = true) (M : CalK X.prog X.w X.K X.mg X.base CX k C st qual kwd ps sp) (hd : kwd ≠ []) (hms : ∀ q ∈ ms, q ∈ kwd) (hrel : Keeps3 g) (hp : PutsK st qual ps (n + 1) ks ms g)
    (hr : Room (k + 1) X.A) (hg : Gl X x) (hm : X.mg x = some (.ref C)) (hx : Passes CX X E) (ha : PA X (e :: es) t) (hkw : PK X kws tk) (hall : (backToKw pos (keywordEach kws X.env)).all (·.1.isSome) = true := by rfl) (hks : (backToKw pos (keywordEach kws X.env)).filterMap (·.1) = ks := by rfl)
    (hdb : (x == ("__debug__" : Str)) = false := by decide) (he : starEach (e :: es) X.env = (false, eval e X.env) :: starEach es X.env := by rfl) (hpl : ((backTo pos (starEach (e :: es) X.env)).any (·.1) || (backToKw pos (keywordEach kws X.env)).any (·.1.isNone)) = false := by rfl) :
    PE X (.Call (.Name x p) (e :: es) kws pos) (tMakeK C n ks.length sp (fun vs zs => g vs (ms.map (·.2)) zs) E t tk) := by
  obtain ⟨f, fd, me, F, D⟩ := M.ex
  obtain ⟨mv, hb⟩ := FunD.kbinds0 (ps := ps) D (n + 1) ks ms g hd hms hrel hp
  exact pe_makeK ⟨hmk, me.at_, me.fn, hkc⟩ F hr hg hm hb hx ha hkw hall hks hdb he hpl
theorem pe_makeKO0 (ms : List (Str × V)) (g : {α : Type} → List α → List α → List α → List α) (hmk : PySem.W.makesIn X.K C = true) (hkc : PySem.W.keepIn X.K (.ref C) = true) (M : CalK X.prog X.w X.K X.mg X.base CX k C st qual kwd ps sp) (hd : kwd ≠ []) (hms : ∀ q ∈ ms, q ∈ kwd) (hrel : Keeps3 g) (hp : PutsK st qual ps 1 ks ms g)
    (hr : Room (k + 1) X.A) (hg : Gl X x) (hm : X.mg x = some (.ref C)) (hx : Passes CX X E) (hkw : PK X kws tk) (hall : (backToKw pos (keywordEach kws X.env)).all (·.1.isSome) = true := by rfl) (hks : (backToKw pos (keywordEach kws X.env)).filterMap (·.1) = ks := by rfl)
    (hdb : (x == ("__debug__" : Str)) = false := by decide) (hpl : ((backTo pos (starEach [] X.env)).any (·.1) || (backToKw pos (keywordEach kws X.env)).any (·.1.isNone)) = false := by rfl) :
    PE X (.Call (.Name x p) [] kws pos) (tMakeK C 0 ks.length sp (fun vs zs => g vs (ms.map (·.2)) zs) E tNil tk) := by
  obtain ⟨f, fd, me, F, D⟩ := M.ex
  obtain ⟨mv, hb⟩ := FunD.kbinds0 (ps := ps) D 1 ks ms g hd hms hrel hp
  exact pe_makeK0 ⟨hmk, me.at_, me.fn, hkc⟩ F hr hg hm hb hx hkw hall hks hdb hpl
end
end Kb

/-! ### a list or a tuple: enumerate(x), x[i:j], its length; a list's items into names -/
namespace Kb
open PySem PySem.Spec PyProof.Rows L2
section
variable {X : Cx} {pins : List (Addr × Obj)} {σ : L2.St} {H : Hp} {s : Shared} {a : Addr} {S : Hp → List V → Prop} {Ar : Heap → Array Value → Prop} {At : Heap → Addr → Nat → Prop} {ob : Obj}
@[irreducible] def iEnumV (K : PySem.W.Frag) (te : TE) : TI := fun σ H R => te σ H fun x H1 => ∃ a, x = .ref a ∧ ((∃ xs, SqL K H1 a xs ∧ R (ItS (fun H ys => SqL K H a ys) 0) H1) ∨ ∃ xs, SqT K H1 a xs ∧ R (ItS (fun H ys => SqT K H a ys) 0) H1)
theorem pi_enumV {e : Expr} {te : TE} {p pos tpos : Pos} {elts : List Expr} {kk : Nat} (hg : Gl X "enumerate") (hm : X.mg "enumerate" = none) (he : PE X e te)
    (hs : starEach [e] X.env = (false, eval e X.env) :: starEach [] X.env := by rfl) : PI X (.Tuple elts kk tpos) (.Call (.Name "enumerate" p) [e] [] pos) (iEnumV X.K te) := by
  unfold iEnumV
  refine ⟨fun pins s σ H R I h => ?_⟩
  refine wpAny_Call_Name_kw (ld_blt I hg hm boot_enumerate (PyProof.Rows.callWith_type1 ?_ hs rfl))
  rw [hs]
  refine Calls.spliced_cons (thn (he.run pins s σ H _ I h) fun u s1 ⟨x, H1, I1, rx, a, ex, q⟩ => Calls.spliced_nil ?_)
  subst ex
  obtain rfl : u = Value.ref a := rx
  rcases q with ⟨xs, hx, hR⟩ | ⟨xs, hx, hR⟩
  · have sr := src_list X.K a
    obtain ⟨its, rv, hA⟩ := sr.get rfl I1 hx
    obtain ⟨oa, hoa⟩ := sr.lives hA
    have hlt := Heap.lt_size hoa
    refine enum0_begins (sr.begin its.toArray) hA fun h' hen hit hsz hk => wpAny_pyIter_enum hen ?_
    have I2 : Inv X pins σ H1 { s1 with heap := h' } := I1.kept (t' := s1.toks) hk
    exact ⟨s1.heap.objs.size + 1, [s1.heap.objs.size + 1, s1.heap.objs.size], _, _, H1, rfl, I2, turn_enumS sr 0 (s1.heap.objs.size + 1) s1.heap.objs.size (Nat.ne_of_lt hlt) (Nat.succ_ne_self _) (Nat.ne_of_gt (Nat.lt_succ_of_lt hlt)), ⟨⟨.none, by simpa using hen⟩, sr.first hit⟩, (fun b hb => by
      have hle : s1.heap.objs.size ≤ b := by
        rcases List.mem_cons.mp hb with z | z
        · rw [z]; exact Nat.le_succ _
        · rw [List.mem_singleton.mp z]; exact Nat.le_refl _
      exact I1.fpOk hle (I1.hok.fresh hle)), hR⟩
  · have sr := src_tup X.K a
    obtain ⟨its, rv, hA⟩ := sr.get rfl I1 hx
    obtain ⟨oa, hoa⟩ := sr.lives hA
    have hlt := Heap.lt_size hoa
    refine enum0_begins (sr.begin its.toArray) hA fun h' hen hit hsz hk => wpAny_pyIter_enum hen ?_
    have I2 : Inv X pins σ H1 { s1 with heap := h' } := I1.kept (t' := s1.toks) hk
    exact ⟨s1.heap.objs.size + 1, [s1.heap.objs.size + 1, s1.heap.objs.size], _, _, H1, rfl, I2, turn_enumS sr 0 (s1.heap.objs.size + 1) s1.heap.objs.size (Nat.ne_of_lt hlt) (Nat.succ_ne_self _) (Nat.ne_of_gt (Nat.lt_succ_of_lt hlt)), ⟨⟨.none, by simpa using hen⟩, sr.first hit⟩, (fun b hb => by
      have hle : s1.heap.objs.size ≤ b := by
        rcases List.mem_cons.mp hb with z | z
        · rw [z]; exact Nat.le_succ _
        · rw [List.mem_singleton.mp z]; exact Nat.le_refl _
      exact I1.fpOk hle (I1.hok.fresh hle)), hR⟩
end
/-- x[i:j] of a list or a tuple -/
@[irreducible] def rSlV (K : PySem.W.Frag) : V → Option Int → Option Int → Hp → VK → Prop := fun x lo hi H Q => rSlLU K x lo hi H Q ∨ rSlA K x lo hi H Q
theorem Walk.cast {J : It} {n : Nat} {G G' : Hp → Prop} {Y : Nat → Hp → V → Hp → Prop} (w : Walk J n G Y) (h : ∀ H, G' H → G H) : Walk J n G' Y := w.mono h fun _ _ _ _ _ _ y => y
end Kb
/-! ### a tuple once, or not at all -/
namespace Kb
open PySem PySem.Spec PyProof.Rows L2
theorem tuple_mul1 (l : Addr) (items : Array Value) (n : Nat) (dd : Option Addr) (sl : Array (Option Value)) (u : Tok) :
    Meets (Builtin.«tuple.__mul__» ⟨[.ref l, .int 1 u], []⟩) (fun _ R s => s.heap.get? l = some { cls := .type "tuple", dict := dd, data := .seq items n, slots := sl } ∧ R (.ok (.ret (Value.ref l))) s) :=
  .of_wp fun prog w A R s h => by
    obtain ⟨hp, g, d, tk, os⟩ := s
    obtain ⟨hl, h⟩ := h
    have f1 := AutoSeq1.idx_int
    have c0 : (decide ((1 : Int) < -(2 ^ 63)) || decide ((1 : Int) ≥ 2 ^ 63)) = false := by decide +kernel
    have c1 : (items.isEmpty || (1 : Int) == 1) = true := by simp
    wp_walk using wpAny_loadPart' hl
    repeat (first
      | (refine wpAny_ite_false (decide_eq_false (by rw [c0]; exact Bool.false_ne_true)) ?_; wp_walk using wpAny_loadPart' hl)
      | (refine wpAny_ite_true (decide_eq_true c1) ?_; wp_walk using wpAny_loadPart' hl))
    exact ⟨_, rfl, h⟩
theorem tuple_mul0 (l : Addr) (items : Array Value) (n : Nat) (dd : Option Addr) (sl : Array (Option Value)) (u : Tok) (c1 : items.isEmpty = false) :
    Meets (Builtin.«tuple.__mul__» ⟨[.ref l, .int 0 u], []⟩) (fun _ R s => s.heap.get? l = some { cls := .type "tuple", dict := dd, data := .seq items n, slots := sl } ∧
      R (.ok (.ret (Value.ref s.heap.objs.size))) { s with heap := s.heap.push { cls := Value.type "tuple", data := Data.seq #[] }, toks := s.toks }) :=
  .of_wp fun prog w A R s h => by
    obtain ⟨hp, g, d, tk, os⟩ := s
    obtain ⟨hl, h⟩ := h
    have f1 := AutoSeq1.idx_int
    have c0 : (decide ((0 : Int) < -(2 ^ 63)) || decide ((0 : Int) ≥ 2 ^ 63)) = false := by decide +kernel
    have c2 : (items.isEmpty || (0 : Int) == 1) = false := by rw [c1]; rfl
    have c3 : (decide ((0 : Int) ≤ 0) || items.isEmpty) = true := by simp
    wp_walk using wpAny_loadPart' hl
    repeat (first
      | (refine wpAny_ite_false (decide_eq_false (by rw [c0]; exact Bool.false_ne_true)) ?_; wp_walk using wpAny_loadPart' hl)
      | (refine wpAny_ite_false (decide_eq_false (by rw [c2]; exact Bool.false_ne_true)) ?_; wp_walk using wpAny_loadPart' hl)
      | (refine wpAny_ite_true (decide_eq_true c3) ?_; wp_walk using wpAny_loadPart' hl))
    exact ⟨_, rfl, h⟩
def rRepZ (K : PySem.W.Frag) : R2 := fun x y H Q => ∃ l xs, ∃ b : Bool, x = .ref l ∧ y = .int (if b then 1 else 0) ∧ SqT K H l xs ∧ xs ≠ [] ∧ (b = true → Q (.ref l) H) ∧ (b = false → ∀ p, H p = none → Q (.ref p) (upd H p (.tup [])))
section
variable {X : Cx}
theorem op_repZ : OpR X (binaryOp .Mult) (rRepZ X.K) := by
  intro pins s σ H x y v u Q I rx ry h
  obtain ⟨l, xs, b, rfl, rfl, hT, hne, q1, q0⟩ := h
  cases rx
  obtain ⟨t, rfl⟩ := ry
  obtain ⟨its, r, ⟨⟨cls, dd, data, sl⟩, ho, hc, n, hd⟩, hs⟩ := I.tuple hT
  simp only at hc hd
  subst hc hd
  have hle : its.length = xs.length := r.length.symm
  have hn : its ≠ [] := fun e => hne (by
    rw [e] at hle
    exact List.eq_nil_of_length_eq_zero hle.symm)
  have hi : its.toArray.isEmpty = false := by
    cases its with
    | nil => exact absurd rfl hn
    | cons a b => rfl
  cases b with
  | true =>
    exact wpAny_binaryOp_repeat_ref (T := "tuple") (U := "int") (by decide) ⟨_, ho, rfl⟩ (fun s' => typeIs_int s' 1 t) noFill_tuple_mul F.fills_int_mul F.slot_int_rmul repeat_tuple F.slot_int_index.lookup
      (call_meets F.slot_int_rmul (typeIs_int s 1 t) F.entry_int_rmul (F.args_int_rmul_2 _ _) (int_rmul_tuple 1 t l its.toArray n dd sl)
        ⟨ho, rfl, ⟨_, ho, rfl⟩, call_meets F.slot_tuple_mul ⟨_, ho, rfl⟩ F.entry_tuple_mul (F.args_tuple_mul_2 _ _) (tuple_mul1 l its.toArray n dd sl t) ⟨ho, ⟨.ref l, H, I, rfl, q1 rfl⟩⟩⟩)
  | false =>
    refine wpAny_binaryOp_repeat_ref (T := "tuple") (U := "int") (by decide) ⟨_, ho, rfl⟩ (fun s' => typeIs_int s' 0 t) noFill_tuple_mul F.fills_int_mul F.slot_int_rmul repeat_tuple F.slot_int_index.lookup
      (call_meets F.slot_int_rmul (typeIs_int s 0 t) F.entry_int_rmul (F.args_int_rmul_2 _ _) (int_rmul_tuple 0 t l its.toArray n dd sl)
        ⟨ho, rfl, ⟨_, ho, rfl⟩, call_meets F.slot_tuple_mul ⟨_, ho, rfl⟩ F.entry_tuple_mul (F.args_tuple_mul_2 _ _) (tuple_mul0 l its.toArray n dd sl t hi) ⟨ho, ?_⟩⟩)
    refine ⟨.ref s.heap.objs.size, _, I.laid (t' := s.toks) (o := .tup []) (fun b ob q => Heap.get?_push_of_some _ q) (Nat.le_refl _) ?_, rfl, q0 rfl _ (I.hok.fresh (Nat.le_refl _))⟩
    exact ⟨by decide, [], .nil, IsTup.new _ _⟩
end
end Kb
namespace Kb
open PySem PySem.Spec PyProof.Rows L2
theorem u_slV {X : Cx} : SlR X (rSlV X.K) := by unfold rSlV; exact u_slL.or sl_tupA
/-- times: the joined rule, or a text over and over -/
def rMulX (K : PySem.W.Frag) : R2 := fun x y H Q => rMulU K x y H Q ∨ rRepS x y H Q ∨ rRepZ K x y H Q
theorem u_mulX {X : Cx} : OpR X (binaryOp .Mult) (rMulX X.K) := u_mul.or (op_repS.or op_repZ)
theorem repZ_go {K : PySem.W.Frag} {H : Hp} {Q : VK} {a : Addr} {xs : List V} {b : Bool} (h : SqT K H a xs) (ne : xs ≠ []) (q1 : b = true → Q (.ref a) H) (q0 : b = false → ∀ p, H p = none → Q (.ref p) (upd H p (.tup []))) : rMulX K (.ref a) (.int (if b then 1 else 0)) H Q := .inr (.inr ⟨_, _, b, rfl, rfl, h, ne, q1, q0⟩)
abbrev rSIdx : V → List V → Hp → VK → Prop := fun x xs H Q => ∃ a b i rest, x = .str a ∧ xs = [.str b] ∧ Builtin.Str.occurrences a b 0 a.length 1 = i :: rest ∧ Q (.int (i : Nat)) H
/-! ### defs of the text with defaults -/
def DefF (K : PySem.W.Frag) (mg : Str → Option Value) (st : Stmt) (x : Str) (dvs : List V) : Prop := ∃ f fd, mg x = some (.ref f) ∧ FunD K x x (defArgs st) (defBody st) (defScope st) dvs [] f fd
structure CalDf (P : Program) (w : World) (K : PySem.W.Frag) (mg : Str → Option Value) (base : Heap) (CX : CXT) (k : Nat) (st : Stmt) (x : Str) (dvs : List V) (ps : List Str) (sp : Sp) : Prop where
  ex : ∃ f fd, mg x = some (.ref f) ∧ FnOk P w K mg base CX k f fd ps sp ∧ FunD K x x (defArgs st) (defBody st) (defScope st) dvs [] f fd
theorem CalDf.of {P : Program} {w : World} {K : PySem.W.Frag} {mg : Str → Option Value} {base : Heap} {x : Str} {st : Stmt} {dvs : List V} {N ps : List Str} {k : Nat} {sp : Sp} (D : DefF K mg st x dvs) (S : FnScope N ps (defScope st)) (len : ∀ vs H Q E, sp vs H Q E → vs.length = ps.length)
    (hbody : ∀ (f : Addr) (cdv : Value) (A : Around) (outer : List Env) (s : Shared) (H : Hp) (vs : List V) (Q : VK) (E : XK), Room k (A.deeper (envOfC x (defScope st) s.heap.objs.size f cdv)) → sp vs H Q E →
      ∃ t, PSs (cxOf CX0 P w K mg base N x (defScope st) f cdv A outer s H E).nox (defBody st) t ∧ t { nx := fun _ H' => Q .non H', rt := Q } (start N vs) H) : CalDf P w K mg base CX0 (k + 1) st x dvs ps sp := by
  obtain ⟨f, fd, hm, F⟩ := D
  exact ⟨f, fd, hm, F.ok S len fun cdv A outer s H vs Q E hr h => let ⟨t, h1, h2⟩ := hbody f cdv A outer s H vs Q E hr h; ⟨t, h1.nox, h2⟩, F⟩
section
variable {X : Cx} {CX : CXT} {k : Nat} {st : Stmt} {dvs : List V} {x : Str} {ps : List Str} {sp : Sp} {E : XK} {e : Expr} {es : List Expr} {t : TA} {p pos : Pos}
/-- a call that leaves the defaults behind the first j -/
theorem pe_callDf (n j : Nat) (C : CalDf X.prog X.w X.K X.mg X.base CX k st x dvs ps sp) (hd : dvs ≠ []) (hn : n + (dvs.length - j) = ps.length)
    (h : ∀ (T : Addr) (kV doc pm : Value) (an : Option Addr) (cdv ct : Value) (us its : List Value), us.length = n → its.length = dvs.length →
      ∃ k, bindArgs (PySem.W.fnOf x x (defArgs st) (defBody st) (defScope st) (.ref T) kV doc pm an cdv ct) ⟨us, []⟩ = seqItems? (.ref T) >>= k ∧ k (some its.toArray) = pure (ps.zip (us ++ its.drop j)))
    (hr : Room k X.A) (hg : Gl X x) (hx : Passes CX X E) (ha : PA X (e :: es) t) (hdb : (x == ("__debug__" : Str)) = false := by decide) (he : starEach (e :: es) X.env = (false, eval e X.env) :: starEach es X.env := by rfl) (hpl : (backTo pos (starEach es X.env)).any (·.1) = false := by rfl) :
    PE X (.Call (.Name x p) (e :: es) [] pos) (tCall sp (dvs.drop j) E t) := by
  obtain ⟨f, fd, hm, F, D⟩ := C.ex
  obtain ⟨ds, hv, hb⟩ := FunD.binds1 (ps := ps) D n j hd hn h
  exact pe_call F hr hg hm D.kp hb hv hx ha hdb he hpl
end
end Kb

/-! ### a lambda of one thing that captures names, handed to a def of two -/
namespace Kb
open PySem PySem.Spec PyProof.Rows L2
open LamX (CodeO Tabs ExtN TabB lam_make2)
open NdefX (NF NScope CellsAt Caps startF envF ncx slotAt cells_of inv_startN)
section
variable {X : Cx} {pins : List (Addr × Obj)} {σ : L2.St} {H HZ : Hp} {s s1 : Shared}
/-- a slot's name is read, the state stays -/
theorem ld_slot {E : Value → Shared → Prop} {Q : Value → Shared → Prop} {i : Nat} {x : Str} {v : V} {pos : Pos} (I : Inv X pins σ H s) (hN : X.N[i]? = some x) (hv : Vis X.env.scope x) (e : σ[i]? = some (some v)) (h : ∀ u, RelV v u → Q u s)
    (d1 : (x == ("__debug__" : Str)) = false) (d2 : (x == ("__classdict__" : Str)) = false) : wpAny (model X.prog X.w) X.A (eval (.Name x pos) X.env) Q E s := by
  obtain ⟨_, ns, at_⟩ := I.loc
  obtain ⟨u, r, l⟩ := at_ i x v hN e hv
  have q := h u r
  rcases l with ⟨k, m⟩ | ⟨k | k, c, hc, cell⟩
  · exact wpAny_Name (wpAny_loadName_local I.ok.kind k ns m q) d1
  · exact wpAny_Name (wpAny_loadName_cell I.ok.kind k hc cell q) d1
  · exact wpAny_Name (wpAny_loadName_free I.ok.kind k hc cell q d2) d1
theorem cells_move {cl : List (Str × Addr)} {fr : List Str} {ws : List (Option V)} {fs : List Addr} {h h' : Heap} {G G' : Hp} (C : CellsAt cl fr ws h G) (un : Un fs [] G G' h h') : CellsAt cl fr ws h' G' := by
  have kp : ∀ c v, G c = none → h.IsCell c v → h'.IsCell c v := fun c v n ⟨o, ho, hd⟩ => by
    obtain ⟨sl, q⟩ := un.any ho n (by simp)
    exact ⟨_, q, hd⟩
  refine ⟨C.len, fun y c e => ?_, C.inj, fun i y e => ?_⟩
  · obtain ⟨n, v, o, ho, hd⟩ := C.all y c e
    exact ⟨un.free c o ho n (by simp), v, kp c v n ⟨o, ho, hd⟩⟩
  · obtain ⟨c, hc, g⟩ := C.has i y e
    refine ⟨c, hc, fun v ev => ?_⟩
    obtain ⟨u, r, z⟩ := g v ev
    exact ⟨u, r, kp c _ (C.all y c hc).1 z⟩
abbrev lamF (X : Cx) (params : Arguments) (scope : Scope) (c' : Addr) : NF := ⟨"<lambda>", X.env.qual ++ "<lambda>", params, [], scope, cloFrom X.env.cells scope.names [], c'⟩
/-- a(b) in the def that got the lambda a and b -/
theorem pe_act1 {CXg : CXT} {Eg : XK} {Ng N fr : List Str} {js : List Nat} {qg pa : Str} {sg : Scope} {g f c' : Addr} {cdg pm ctv : Value} {params : Arguments} {body : Expr} {scope : Scope} {k : Nat} {a b : Str} {pn : List (Addr × Obj)} {xe : Value → Shared → Prop} {E : L2.St → XK} {tb : XK → TE} {p1 p2 p3 : Pos}
    (I : Inv X pins σ H s) (hf : s.heap.get? f = some (PySem.W.kla_obj "<lambda>" (X.env.qual ++ "<lambda>") params body scope (cloFrom X.env.cells scope.names []) pm c' ctv)) (hfn : H f = none) (hfr : f ∉ frs X.stack)
    (S : NScope N [pa] fr scope) (cp : Caps X (cloFrom X.env.cells scope.names []) fr js) (hb : ∀ u, bindArgs (PySem.W.kla_fn "<lambda>" (X.env.qual ++ "<lambda>") params body scope (cloFrom X.env.cells scope.names []) pm (.ref c') ctv) ⟨[u], []⟩ = pure [(pa, u)])
    (hx : ∀ σ, PassesAt (L2.CX X.prog X.w) ((cxOf CXg X.prog X.w X.K X.mg X.base Ng qg sg g cdg X.A X.stack s H Eg).tr pn xe) σ (E σ)) (hr : Room (k + 1) (X.A.deeper (envOfC qg sg s.heap.objs.size g cdg)))
    (hbody : ∀ (A : Around) (outer : List Env) (s : Shared) (H : Hp) (E : XK), Room k (A.deeper (envF (lamF X params scope c') f s.heap.objs.size)) → PE (ncx (L2.CX X.prog X.w) X.prog X.w X.K X.mg X.base N (lamF X params scope c') f A outer s H E) body (tb E))
    (na : Ng[0]? = some a) (va : Vis sg a) (nb : Ng[1]? = some b) (vb : Vis sg b) (da : (a == ("__debug__" : Str)) = false) (ca : (a == ("__classdict__" : Str)) = false) (db : (b == ("__debug__" : Str)) = false) (cb : (b == ("__classdict__" : Str)) = false) :
    PE ((cxOf CXg X.prog X.w X.K X.mg X.base Ng qg sg g cdg X.A X.stack s H Eg).tr pn xe) (.Call (.Name a p1) [.Name b p3] [] p2)
      (fun σZ HZ Q => σZ[0]? = some (some (.ref f)) ∧ ∃ v, σZ[1]? = some (some v) ∧ HZ c' = some (CodeO c' (X.env.qual ++ "<lambda>")) ∧ tb (E σZ) (startF N [v] (js.map (slotAt σ))) HZ Q) := by
  refine ⟨fun pinsZ sZ σZ HZ Q IZ h => ?_⟩
  obtain ⟨h0, v, h1, hc, ht⟩ := h
  refine wpAny_Call_Name_kw (ld_slot IZ na va h0 (fun u ru => ?_) da ca)
  obtain rfl : u = Value.ref f := ru
  have of : sZ.heap.get? f = some (PySem.W.kla_obj "<lambda>" (X.env.qual ++ "<lambda>") params body scope (cloFrom X.env.cells scope.names []) pm c' ctv) := IZ.base.keep f _ hf hfn hfr (fun z => nomatch (show f ∈ ([] : List Addr) from z))
  refine PySem.W.callWith_F (first := []) ⟨_, _, _, _, of⟩ ?_ (by rfl) (by rfl)
  refine Calls.spliced_cons (ld_slot IZ nb vb h1 (fun u ru => Calls.spliced_nil ⟨⟨_, _, _, _, of⟩, ?_⟩) db cb)
  show wpAny _ _ (call (.ref f) [u]) _ _ _
  have un : Un (frs X.stack) [] H HZ s.heap sZ.heap := IZ.base
  obtain ⟨⟨oc, cs, t, hoc, hdc, hvc⟩, _, _⟩ := IZ.hok c' _ hc
  have C := cells_move (cells_of I cp) un
  have rc : codeAny (model X.prog X.w) (X.A.deeper (envOfC qg sg s.heap.objs.size g cdg)) (.call (.ref f) ⟨[u], []⟩) (CR (L2.CX X.prog X.w) (envOfC qg sg s.heap.objs.size g cdg :: X.stack) X.prog X.w HZ sZ Q (E σZ)) sZ := by
    refine PySem.W.kla_callFunE hr.depth of rfl S.co S.gen rfl ⟨c', oc, cs, t, rfl, hoc, hdc, hvc⟩ ?_
    rw [hb u]
    refine wpAny_pure (wpAny_newFunctionEnv S.nocell (fun y hy => ?_) (fun h₁ hns hsb => ⟨IZ.nolimit.fresh _ hsb, ?_⟩) S.kind)
    · rw [List.mem_singleton.mp hy]
      exact S.par pa List.mem_cons_self
    · show codeAny _ _ (.expr body (envF (lamF X params scope c') f sZ.heap.objs.size)) _ _
      have kp : ∀ b o, sZ.heap.get? b = some o → h₁.get? b = some o := fun b o e => hsb.extBut b o (Nat.ne_of_lt (Heap.lt_size e)) (Heap.get?_push_of_some _ e)
      have J := inv_startN (CX := L2.CX X.prog X.w) (F := lamF X params scope c') (fr := fr) (N := N) (ws := js.map (slotAt σ)) (f := f) (E := E σZ) (tk := sZ.toks + [(pa, u)].length) S hr.hd IZ.env0 (show [v].length = [pa].length from rfl) (.cons ru .nil) C hns kp
      refine PySem.W.kla_codeExpr (wpAny_mono ((hbody _ _ sZ HZ (E σZ) (hr.deeper _)).run [] _ _ HZ Q J ht) (fun w s' z => ?_) fun _ _ z => z)
      obtain ⟨w', H', J', rw', q⟩ := z
      exact ⟨w', H', J'.os, J'.bare, J'.base, J'.hok, rw', q⟩
  refine wpAny_call (codeAny_mono rc fun r s' z => ?_)
  cases r with
  | error e => exact hx σZ pinsZ HZ sZ e s' IZ z
  | ok fl =>
    cases fl with
    | ret w => exact IZ.after z
    | next => exact z.elim
    | brk => exact z.elim
    | cont => exact z.elim
end
/-- the def g that calls what it got, of what it got; TT: what it makes of the lambda's reading -/
def Gives2 (X : Cx) (Ng : List Str) (x : Str) (sg : Scope) (g : Addr) (cdg : Value) (bg : List Stmt) (a b : Str) (q : Str) (TT : (XK → V → Hp → VK → Prop) → V → Hp → VK → Prop) : Prop :=
  ∀ (f c' : Addr) (s : Shared) (H : Hp) (Q : VK) (v : V) (tl : XK → V → Hp → VK → Prop), (∃ k, Room k (X.A.deeper (envOfC x sg s.heap.objs.size g cdg))) →
    (∀ (pn : List (Addr × Obj)) (xe : Value → Shared → Prop) (E : L2.St → XK) (p1 p2 p3 : Pos), (∀ σ, PassesAt (L2.CX X.prog X.w) ((cxOf CX0 X.prog X.w X.K X.mg X.base Ng x sg g cdg X.A X.stack s H E0).tr pn xe) σ (E σ)) →
      PE ((cxOf CX0 X.prog X.w X.K X.mg X.base Ng x sg g cdg X.A X.stack s H E0).tr pn xe) (.Call (.Name a p1) [.Name b p3] [] p2) (fun σZ HZ Q => σZ[0]? = some (some (.ref f)) ∧ ∃ v, σZ[1]? = some (some v) ∧ HZ c' = some (CodeO c' q) ∧ tl (E σZ) v HZ Q)) →
    H c' = some (CodeO c' q) → TT tl v H Q → ∃ t, PSs (cxOf CX0 X.prog X.w X.K X.mg X.base Ng x sg g cdg X.A X.stack s H E0).nox bg t ∧ t { nx := fun _ H' => Q .non H', rt := Q } (L2.start Ng [.ref f, v]) H
def tLam2 (T : List (Addr × Str)) (TT : (XK → V → Hp → VK → Prop) → V → Hp → VK → Prop) (iy : Nat) (N : List Str) (js : List Nat) (t : XK → TE) : TE := fun σ H Q =>
  Tabs T H ∧ ∃ v, σ[iy]? = some (some v) ∧ ∀ H1, ExtN H H1 → Tabs T H1 → TT (fun E w H' Q' => t E (startF N [w] (js.map (slotAt σ))) H' Q') v H1 Q
section
variable {X : Cx}
theorem pe_lamcall2 {T : List (Addr × Str)} {TT : (XK → V → Hp → VK → Prop) → V → Hp → VK → Prop} {x a b y pa : Str} {g c P : Addr} {k iy : Nat} {pg : Arguments} {bg : List Stmt} {sg : Scope} {dV kV doc pm cdv ct oc : Value} {an od : Option Addr} {osl : Array (Option Value)} {Ng N fr : List Str} {js : List Nat}
    {params : Arguments} {body : Expr} {scope : Scope} {t : XK → TE} {p lpos yp pos : Pos} (hg : Gl X x) (hm : X.mg x = some (.ref g)) (hk : PySem.W.keepIn X.K (.ref g) = true)
    (lk : X.K.lookup g = some ⟨oc, od, .func (PySem.W.fnOf x x pg bg sg dV kV doc pm an cdv ct), osl⟩) (hcg : PySem.W.codeIn X.K cdv x = true) (hb : L2.Binds X.K (PySem.W.fnOf x x pg bg sg dV kV doc pm an cdv ct) [a, b] []) (Sg : FnScope Ng [a, b] sg)
    (na : Ng[0]? = some a) (va : Vis sg a) (nb : Ng[1]? = some b) (vb : Vis sg b) (da : (a == ("__debug__" : Str)) = false) (ca : (a == ("__classdict__" : Str)) = false) (db : (b == ("__debug__" : Str)) = false) (cb : (b == ("__classdict__" : Str)) = false)
    (hG : Gives2 X Ng x sg g cdv bg a b (X.env.qual ++ "<lambda>") TT) (TB : TabB X.base X.mg c P) (hcode : X.env.code = .ref c) (hmT : (P, X.env.qual ++ "<lambda>") ∈ T) (hu : ∀ p ∈ T, p.1 = P → p.2 = X.env.qual ++ "<lambda>") (hr : Room (k + 2) X.A)
    (S : NScope N [pa] fr scope) (hfree : ∀ y ∈ scope.names, y.2 = .free → X.env.scope.names.lookup y.1 = some .cell ∨ X.env.scope.names.lookup y.1 = some .free) (hfr : ∀ y ∈ fr, (y, NameKind.free) ∈ scope.names) (hjs : js.map (fun j => X.N[j]?) = fr.map some)
    (hdef : defaultsOf params X.env = ([], [])) (hbind : ∀ (q : Str) (cl : List (Str × Addr)) (pm cv ctv u : Value), bindArgs (PySem.W.kla_fn "<lambda>" q params body scope cl pm cv ctv) ⟨[u], []⟩ = pure [(pa, u)])
    (hny : X.N[iy]? = some y) (hvy : Vis X.env.scope y) (dy : (y == ("__debug__" : Str)) = false) (cy : (y == ("__classdict__" : Str)) = false)
    (hbody : ∀ (A : Around) (outer : List Env) (s : Shared) (H : Hp) (E : XK) (f c' : Addr), Room k (A.deeper (envF (lamF X params scope c') f s.heap.objs.size)) → PE (ncx (L2.CX X.prog X.w) X.prog X.w X.K X.mg X.base N (lamF X params scope c') f A outer s H E) body (t E))
    (hdb : (x == ("__debug__" : Str)) = false := by decide) :
    PE X (.Call (.Name x p) [.Lambda params body scope lpos, .Name y yp] [] pos) (tLam2 T TT iy N js t) := by
  refine ⟨fun pins s σ H Q I h => ?_⟩
  obtain ⟨hT, v, hy, h⟩ := h
  have has : ∀ y ∈ scope.names, y.2 = .free → ∃ c, X.env.cells.lookup y.1 = some c := fun y m e => (hfree y m e).elim (fun z => I.ok.has _ (.inl z)) fun z => I.ok.has _ (.inr z)
  refine wpAny_Call_Name_kw (ld_glob I hg hm ?_ hdb)
  refine PySem.W.callWith_K (h₀ := X.base) I.ok.mod.kin hk ?_ (by rfl) (by rfl)
  refine Calls.spliced_cons (lam_make2 I TB hcode hmT hu hT hdef has fun f c' pm' ctv H1 s' I1 eN T1 hf hfn hfr' hco => ?_)
  refine Calls.spliced_cons (ld_slot I1 hny hvy hy (fun u ru => Calls.spliced_nil ⟨I1.kIn, ?_⟩) dy cy)
  have cp := Caps.made (X := X) (fr := fr) (js := js) (scope := scope) I.ok hfree hfr hjs
  have rc : codeAny (model X.prog X.w) X.A (.call (.ref g) ⟨[.ref f, u], []⟩) (CR CX0 X.stack X.prog X.w H1 s' Q E0) s' := by
    refine LamX.run_ofS (N := Ng) (ps := [a, b]) (us := [.ref f, u]) (vs := [.ref f, v]) lk hcg Sg hr I1.env0 (hb s' [.ref f, u] I1.kIn rfl) (.cons rfl (.cons ru .nil)) rfl fun hr' => ?_
    obtain ⟨t', ht', hq'⟩ := hG f c' s' H1 Q v (fun E w H' Q' => t E (startF N [w] (js.map (slotAt σ))) H' Q') ⟨_, hr'⟩
      (fun pn xe E p1 p2 p3 hx => pe_act1 I1 hf hfn hfr' S cp (hbind _ _ _ _ _) hx hr' (fun A outer s H E hr2 => hbody A outer s H E f c' hr2) na va nb vb da ca db cb) hco (h H1 eN T1)
    exact ⟨t', ht'.nox, hq'⟩
  refine wpAny_call (codeAny_mono rc fun r s2 z => ?_)
  cases r with
  | error e => exact (show False from z).elim
  | ok fl =>
    cases fl with
    | ret w => exact I1.after z
    | next => exact z.elim
    | brk => exact z.elim
    | cont => exact z.elim
end
section
variable {P : Program} {w : World} {K : PySem.W.Frag} {mg : Str → Option Value} {base : Heap} {CX : CXT} {k : Nat}
/-- a def of the text whose code object stands at c -/
def DefC (K : PySem.W.Frag) (mg : Str → Option Value) (st : Stmt) (x : Str) (c : Addr) : Prop := ∃ f fd, mg x = some (.ref f) ∧ Fun K x x st f fd ∧ fd.code = .ref c
theorem DefC.def_ {st : Stmt} {x : Str} {c : Addr} (D : DefC K mg st x c) : Def K mg st x := by
  obtain ⟨f, fd, a, b, _⟩ := D
  exact ⟨f, fd, a, b⟩
theorem Cal.ofC {x : Str} {st : Stmt} {N ps : List Str} {c : Addr} {sp : Sp} (D : DefC K mg st x c) (S : FnScope N ps (defScope st))
    (hb : ∀ (kV doc pm : Value) (an : Option Addr) (cdv ct : Value) (us : List Value), us.length = ps.length → bindArgs (PySem.W.fnOf x x (defArgs st) (defBody st) (defScope st) .none kV doc pm an cdv ct) ⟨us, []⟩ = pure (ps.zip us))
    (len : ∀ vs H Q E, sp vs H Q E → vs.length = ps.length)
    (hbody : ∀ (f : Addr) (A : Around) (outer : List Env) (s : Shared) (H : Hp) (vs : List V) (Q : VK) (E : XK), Room k (A.deeper (envOfC x (defScope st) s.heap.objs.size f (.ref c))) → sp vs H Q E →
      ∃ t, PSs (cxOf CX0 P w K mg base N x (defScope st) f (.ref c) A outer s H E).nox (defBody st) t ∧ t { nx := fun _ H' => Q .non H', rt := Q } (start N vs) H) : Cal P w K mg base CX0 (k + 1) x ps sp := by
  obtain ⟨f, fd, hm, F, e⟩ := D
  have at_ := Fun.at_ F
  have kp := F.kp
  obtain ⟨oc, od, kV, doc, pm, an, cdv, ct, osl, rfl, lk, hcd⟩ := F.ex
  obtain rfl : cdv = .ref c := e
  refine ⟨f, _, hm, fn_of lk hcd S len fun A outer s H vs Q E hr h => ?_, kp, hb kV doc pm an _ ct, at_⟩
  obtain ⟨t, h1, h2⟩ := hbody f A outer s H vs Q E hr h
  exact ⟨t, h1.nox, h2⟩
/-- a def that a slot may hold -/
structure HeldX (P : Program) (w : World) (K : PySem.W.Frag) (mg : Str → Option Value) (base : Heap) (CX : CXT) (k : Nat) (f : Addr) (sp : Sp) : Prop where
  ex : ∃ (fd : FuncData) (ps : List Str), FnOk P w K mg base CX k f fd ps sp ∧ PySem.W.keepIn K (.ref f) = true ∧ L2.Binds K fd ps []
theorem Cal.held {x : Str} {ps : List Str} {sp : Sp} {f : Addr} (C : Cal P w K mg base CX k x ps sp) (e : mg x = some (.ref f)) : HeldX P w K mg base CX k f sp := by
  obtain ⟨g, fd, hm, F, hk, hb⟩ := C.bound
  cases e.symm.trans hm
  exact ⟨fd, ps, F, hk, hb⟩
theorem HeldX.mono {j : Nat} {f : Addr} {sp : Sp} (h : HeldX P w K mg base CX j f sp) (l : j ≤ k) : HeldX P w K mg base CX k f sp := by
  obtain ⟨fd, ps, F, hk, hb⟩ := h.ex
  exact ⟨fd, ps, F.mono l, hk, hb⟩
end
theorem u_divW {X : Cx} : OpR X (binaryOp .FloorDiv) rDivW := by unfold rDivW; exact op_fdivW
/-- the i-th slot holds a def, S tells which promise -/
def tCallV (i : Nat) (S : Addr → Sp → Prop) (E : L2.St → XK) (t : TA) : TE := fun σ H Q => ∃ f sp, σ[i]? = some (some (.ref f)) ∧ S f sp ∧ t σ H fun vs H1 => sp vs H1 Q (E σ)
section
variable {X : Cx} {CX : CXT} {k i : Nat} {S : Addr → Sp → Prop} {E : L2.St → XK} {x : Str} {p pos : Pos} {e : Expr} {es : List Expr} {t : TA}
theorem pe_callV (A : ∀ f sp, S f sp → HeldX X.prog X.w X.K X.mg X.base CX k f sp) (hr : Room k X.A) (hN : X.N[i]? = some x) (hv : Vis X.env.scope x) (hx : ∀ σ, PassesAt CX X σ (E σ)) (ha : PA X (e :: es) t)
    (d1 : (x == ("__debug__" : Str)) = false := by decide) (d2 : (x == ("__classdict__" : Str)) = false := by decide) (he : starEach (e :: es) X.env = (false, eval e X.env) :: starEach es X.env := by rfl) (hpl : (backTo pos (starEach es X.env)).any (·.1) = false := by rfl) :
    PE X (.Call (.Name x p) (e :: es) [] pos) (tCallV i S E t) := by
  refine ⟨fun pins s σ H Q I h => ?_⟩
  obtain ⟨f, sp, h0, hS, ht⟩ := h
  obtain ⟨fd, ps, F, hk, hb⟩ := (A f sp hS).ex
  refine wpAny_Call_Name_kw (ld_slot I hN hv h0 (fun u r => ?_) d1 d2)
  obtain rfl : u = Value.ref f := r
  refine PySem.W.callWith_K (h₀ := X.base) I.ok.mod.kin hk (thn (ha.run pos pins s σ _ _ I ht) fun us s2 ⟨vs, H2, I2, r, q⟩ => ⟨I2.kIn, ?_⟩) he hpl
  exact run_fnS F hr hb (hx σ) I2 r q
/-- the lambda handed to a def of the text -/
theorem pe_lamD {st : Stmt} {T : List (Addr × Str)} {TT : (XK → V → Hp → VK → Prop) → V → Hp → VK → Prop} {a b y pa : Str} {c P : Addr} {iy : Nat} {Ng N fr : List Str} {js : List Nat} {params : Arguments} {body : Expr} {scope : Scope} {tb : XK → TE} {lpos yp : Pos}
    (D : Def X.K X.mg st x) (hb : ∀ (kV doc pm : Value) (an : Option Addr) (cdv ct : Value) (us : List Value), us.length = 2 → bindArgs (PySem.W.fnOf x x (defArgs st) (defBody st) (defScope st) .none kV doc pm an cdv ct) ⟨us, []⟩ = pure ([a, b].zip us)) (Sg : FnScope Ng [a, b] (defScope st))
    (hg : Gl X x) (na : Ng[0]? = some a) (va : Vis (defScope st) a) (nb : Ng[1]? = some b) (vb : Vis (defScope st) b)
    (hG : ∀ (g : Addr) (cdv : Value), Gives2 X Ng x (defScope st) g cdv (defBody st) a b (X.env.qual ++ "<lambda>") TT) (TB : TabB X.base X.mg c P) (hcode : X.env.code = .ref c) (eT : T = [(P, X.env.qual ++ "<lambda>")]) (hr : Room (k + 2) X.A)
    (S : NScope N [pa] fr scope) (hn : NdefX.ndefB X.env.scope scope fr = true) (hjs : js.map (fun j => X.N[j]?) = fr.map some)
    (hdef : defaultsOf params X.env = ([], [])) (hbind : ∀ (q : Str) (cl : List (Str × Addr)) (pm cv ctv u : Value), bindArgs (PySem.W.kla_fn "<lambda>" q params body scope cl pm cv ctv) ⟨[u], []⟩ = pure [(pa, u)])
    (hny : X.N[iy]? = some y) (hvy : Vis X.env.scope y)
    (hbody : ∀ (A : Around) (outer : List Env) (s : Shared) (H : Hp) (E : XK) (f c' : Addr), Room k (A.deeper (envF (lamF X params scope c') f s.heap.objs.size)) → PE (ncx (L2.CX X.prog X.w) X.prog X.w X.K X.mg X.base N (lamF X params scope c') f A outer s H E) body (tb E))
    (da : (a == ("__debug__" : Str)) = false := by decide) (ca : (a == ("__classdict__" : Str)) = false := by decide) (db : (b == ("__debug__" : Str)) = false := by decide) (cb : (b == ("__classdict__" : Str)) = false := by decide)
    (dy : (y == ("__debug__" : Str)) = false := by decide) (cy : (y == ("__classdict__" : Str)) = false := by decide) (hdb : (x == ("__debug__" : Str)) = false := by decide) :
    PE X (.Call (.Name x p) [.Lambda params body scope lpos, .Name y yp] [] pos) (tLam2 T TT iy N js tb) := by
  obtain ⟨g, fd, hm, F⟩ := D
  have kp := F.kp
  obtain ⟨oc, od, kV, doc, pm, an, cdv, ct, osl, rfl, lk, hcd⟩ := F.ex
  subst eT
  exact pe_lamcall2 hg hm kp lk hcd (.all (hb kV doc pm an cdv ct)) Sg na va nb vb da ca db cb (hG g cdv) TB hcode List.mem_cons_self (fun p hp _ => by rw [List.mem_singleton.mp hp]) hr S (NdefX.ndef_free hn) (NdefX.ndef_fr hn) hjs hdef hbind hny hvy dy cy hbody hdb
end
/-- try: .. except c: .. -/
def tTryC (K : PySem.W.Frag) (c : Value) (tb : WX → TS) (ts : Addr → Value → Option Addr → TS) : TS := fun D σ H => tb (wOnly K c ts (fun _ _ _ _ => False) D) D σ H
end Kb

/-! ### defs and methods whose code object and table of lambdas are known -/
namespace Kb
open PySem PySem.Spec PyProof.Rows L2
open LamX (TabB Tabs TabS ExtN)
def DefMC (K : PySem.W.Frag) (C : Addr) (st : Stmt) (m qual : Str) (c : Addr) : Prop := ∃ f fd, Meth K C m f ∧ Fun K m qual st f fd ∧ fd.code = .ref c
section
variable {P : Program} {w : World} {K : PySem.W.Frag} {mg : Str → Option Value} {base : Heap} {C c : Addr} {m qual x : Str} {st : Stmt} {N ps : List Str} {k : Nat} {sp : Sp}
theorem CalF.ofC (D : DefMC K C st m qual c) (S : FnScope N ps (defScope st)) (len : ∀ vs H Q E, sp vs H Q E → vs.length = ps.length)
    (hbody : ∀ (f : Addr) (A : Around) (outer : List Env) (s : Shared) (H : Hp) (vs : List V) (Q : VK) (E : XK), Room k (A.deeper (envOfC qual (defScope st) s.heap.objs.size f (.ref c))) → sp vs H Q E →
      ∃ t, PSs (cxOf CX0 P w K mg base N qual (defScope st) f (.ref c) A outer s H E).nox (defBody st) t ∧ t { nx := fun _ H' => Q .non H', rt := Q } (start N vs) H) : CalF P w K mg base CX0 (k + 1) C st m qual ps sp := by
  obtain ⟨f, fd, hm, F, e⟩ := D
  have F' := F
  obtain ⟨oc, od, kV, doc, pm, an, cdv, ct, osl, rfl, lk, hcd⟩ := F.ex
  obtain rfl : cdv = .ref c := e
  exact ⟨f, _, hm, fn_of lk hcd S len fun A outer s H vs Q E hr h => let ⟨t, h1, h2⟩ := hbody f A outer s H vs Q E hr h; ⟨t, h1.nox, h2⟩, F'⟩
theorem Cal.ofT (D : DefC K mg st x c) (S : FnScope N ps (defScope st)) (hb : ∀ (kV doc pm : Value) (an : Option Addr) (cdv ct : Value) (us : List Value), us.length = ps.length → bindArgs (PySem.W.fnOf x x (defArgs st) (defBody st) (defScope st) .none kV doc pm an cdv ct) ⟨us, []⟩ = pure (ps.zip us))
    (len : ∀ vs H Q E, sp vs H Q E → vs.length = ps.length)
    (hbody : ∀ (f : Addr) (A : Around) (outer : List Env) (s : Shared) (H : Hp) (vs : List V) (Q : VK) (E : XK), Room k (A.deeper (envOfC x (defScope st) s.heap.objs.size f (.ref c))) → sp vs H Q E →
      ∃ t, PSs (cxOf CX0 P w K mg base N x (defScope st) f (.ref c) A outer s H E).nox (defBody st) t ∧ t { nx := fun _ H' => Q .non H', rt := Q } (start N vs) H) : Cal P w K mg base CX0 (k + 1) x ps sp := by
  obtain ⟨f, fd, hm, F, e⟩ := D
  have at_ := Fun.at_ F
  have kp := F.kp
  obtain ⟨oc, od, kV, doc, pm, an, cdv, ct, osl, rfl, lk, hcd⟩ := F.ex
  obtain rfl : cdv = .ref c := e
  exact ⟨f, _, hm, fn_of lk hcd S len fun A outer s H vs Q E hr h => let ⟨t, h1, h2⟩ := hbody f A outer s H vs Q E hr h; ⟨t, h1.nox, h2⟩, kp, hb kV doc pm an _ ct, at_⟩
end
theorem TabS.kp {M : List Addr} {H H' : Hp} {P : Addr} {q : Str} (t : TabS H P q) (k : Kp M H H') (n : P ∉ M) (nc : ∀ a ∈ M, ∀ φ, H a ≠ some (.ext φ)) : TabS H' P q := by
  obtain ⟨ps, h1, h2, h3⟩ := t
  refine ⟨ps, k _ _ n h1, h2, fun pos cv hc => ?_⟩
  obtain ⟨c, e1, e2⟩ := h3 pos cv hc
  exact ⟨c, e1, k _ _ (fun z => nc c z _ e2) e2⟩
end Kb

/-! ## the program's schemas: sorts, fields, cases; promises for good ones -/
namespace K02
open PySem PySem.Spec PyProof.Rows L2 Kb
open LamX (TabS)
inductive Srt where
  | num (lo hi : Option Int)
  | truth
  | text (n : Int)
  | row (n : Int) (s : Srt)
  | maybe (s : Srt)
  | node (k : Str)
  | pick (k : Str)
def oV : Option Int → V
  | none => .non
  | some i => .int i
/-- x is a sort's tuple -/
def SrtV (K : PySem.W.Frag) (H : Hp) : Srt → V → Prop
  | .num lo hi, x => ∃ a, x = .ref a ∧ SqT K H a [.str "number", oV lo, oV hi]
  | .truth, x => ∃ a, x = .ref a ∧ SqT K H a [.str "truth"]
  | .text n, x => ∃ a, x = .ref a ∧ SqT K H a [.str "text", .int n]
  | .row n s, x => ∃ a y, x = .ref a ∧ SqT K H a [.str "row", .int n, y] ∧ SrtV K H s y
  | .maybe s, x => ∃ a y, x = .ref a ∧ SqT K H a [.str "maybe", y] ∧ SrtV K H s y
  | .node k, x => ∃ a, x = .ref a ∧ SqT K H a [.str "node", .str k]
  | .pick k, x => ∃ a, x = .ref a ∧ SqT K H a [.str "choice", .str k]
/-- a sort of a schema of these kinds and choices, at most so deep -/
def Srt.ok (nk ck : Str → Prop) : Srt → Nat → Prop
  | .num lo hi, _ => ∀ l h, lo = some l → hi = some h → l ≤ h
  | .truth, _ => True
  | .text n, _ => 0 ≤ n ∧ n ≤ 40
  | .row n s, d + 1 => 0 ≤ n ∧ n ≤ 20 ∧ s.ok nk ck d
  | .maybe s, d + 1 => s.ok nk ck d ∧ ∀ s', s ≠ .maybe s'
  | .node k, _ => nk k
  | .pick k, _ => ck k
  | _, _ => False
def GREAT : Int := 999999999999999999999999999999999999999999999999999999999999
/-- v is a default of a sort -/
def DfOk (K : PySem.W.Frag) (H : Hp) : Srt → V → Prop
  | .num lo hi, v => ∃ i, v = .int i ∧ (∀ l, lo = some l → l ≤ i) ∧ (∀ h, hi = some h → i ≤ h) ∧ -GREAT ≤ i ∧ i ≤ GREAT
  | .truth, v => ∃ b, v = .bl b
  | .text n, v => ∃ z : Str, v = .str z ∧ (z.length : Int) ≤ n ∧ z.length ≤ 1000
  | .row _ _, v => ∃ a, v = .ref a ∧ SqT K H a []
  | .maybe _, v => v = .non
  | _, _ => False
/-- one to eight small letters -/
def NameOk (z : Str) : Prop := 1 ≤ z.length ∧ z.length ≤ 8 ∧ ∀ c ∈ z.cps.toList, 97 ≤ c ∧ c ≤ 122
def keyIn (kvs : List (L2.Key × V)) (k : Str) : Prop := ∃ v, valV kvs (.inr k) = some v
structure Fld where
  num : Int
  name : Str
  s : Srt
  y : V
  dfl : Option V
/-- a field's tuple -/
structure FldV (K : PySem.W.Frag) (H : Hp) (f : Fld) (x : V) : Prop where
  at_ : ∃ a, x = .ref a ∧ SqT K H a ([.int f.num, .str f.name, f.y] ++ f.dfl.toList)
  srt : SrtV K H f.s f.y
  dfl : ∀ v, f.dfl = some v → DfOk K H f.s v
structure Fld.ok (nk ck : Str → Prop) (f : Fld) : Prop where
  lo : 1 ≤ f.num
  hi : f.num ≤ 99
  name : NameOk f.name
  srt : f.s.ok nk ck 3
structure Cse where
  num : Int
  name : Str
  s : Option Srt
  y : V
structure CseV (K : PySem.W.Frag) (H : Hp) (c : Cse) (x : V) : Prop where
  at_ : ∃ a, x = .ref a ∧ SqT K H a [.int c.num, .str c.name, c.y]
  srt : ∀ s, c.s = some s → SrtV K H s c.y
  non : c.s = none → c.y = .non
structure Cse.ok (nk ck : Str → Prop) (c : Cse) : Prop where
  lo : 0 ≤ c.num
  hi : c.num ≤ 99
  name : NameOk c.name
  srt : ∀ s, c.s = some s → s.ok nk ck 3
  zero : c.num = 0 → c.s = none
/-- a list or a tuple -/
def Sq (K : PySem.W.Frag) (H : Hp) (a : Addr) (xs : List V) : Prop := H a = some (.lst xs) ∨ SqT K H a xs
@[irreducible] def sp_is_whole (K : PySem.W.Frag) : Sp := fun vs H Q _ => ∃ i : Int, vs = [.int i] ∧ Q (.bl true) H
@[irreducible] def sp_is_within (K : PySem.W.Frag) : Sp := fun vs H Q _ => ∃ (i : Int) (lo hi : Option Int), vs = [.int i, oV lo, oV hi] ∧ Q (.bl ((lo.all fun l => decide (l ≤ i)) && hi.all fun h => decide (i ≤ h))) H
@[irreducible] def sp_is_row (K : PySem.W.Frag) : Sp := fun vs H Q _ => ∃ a xs, vs = [.ref a] ∧ Sq K H a xs ∧ ∀ H', Kp [] H H' → Q (.bl true) H'
@[irreducible] def sp_left_of (K : PySem.W.Frag) : Sp := fun vs H Q _ => ∃ a xs, vs = [.ref a] ∧ SqT K H a xs ∧ 3 ≤ xs.length ∧ ∀ H' p, Kp [] H H' → SqT K H' p (xs.drop 3) → Q (.ref p) H'
@[irreducible] def sp_is_name (K : PySem.W.Frag) : Sp := fun vs H Q _ => ∃ z, vs = [.str z] ∧ NameOk z ∧ ∀ H', Kp [] H H' → Q (.bl true) H'
@[irreducible] def sp_is_bounds (K : PySem.W.Frag) : Sp := fun vs H Q _ => ∃ lo hi : Option Int, vs = [oV lo, oV hi] ∧ (∀ l h, lo = some l → hi = some h → l ≤ h) ∧ ∀ H', Kp [] H H' → Q (.bl true) H'
@[irreducible] def sp_is_known (K : PySem.W.Frag) : Sp := fun vs H Q _ => ∃ a kvs k, vs = [.ref a, .str k] ∧ Rd H a (.dK kvs) ∧ keyIn kvs k ∧ Q (.bl true) H
@[irreducible] def sp_is_sort (K : PySem.W.Frag) : Nat → Sp
  | 0 => fun _ _ _ _ => False
  | n + 1 => fun vs H Q _ => ∃ ka ca x deep kk ck s, vs = [.ref ka, .ref ca, x, .int deep] ∧ Rd H ka (.dK kk) ∧ Rd H ca (.dK ck) ∧ SrtV K H s x ∧ s.ok (keyIn kk) (keyIn ck) n ∧ 0 ≤ deep ∧ deep + n ≤ 3 ∧ ∀ H', Kp [] H H' → Q (.bl true) H'
@[irreducible] def sp_is_default (K : PySem.W.Frag) : Sp := fun vs H Q _ => ∃ s x v, vs = [x, v] ∧ SrtV K H s x ∧ DfOk K H s v ∧ ∀ H', Kp [] H H' → Q (.bl true) H'
@[irreducible] def sp_refuse_if (K : PySem.W.Frag) : Sp := fun vs H Q _ => ∃ p w, vs = [.bl false, p, w] ∧ Q .non H
@[irreducible] def sp_look_at_heading (K : PySem.W.Frag) : Sp := fun vs H Q _ => ∃ w z a xs, vs = [.str w, .str z, .ref a] ∧ NameOk z ∧ Sq K H a xs ∧ ∀ H', Kp [] H H' → Q .non H'
/-- a part's number and name -/
def PartV (K : PySem.W.Frag) (H : Hp) (p : Int × Str) (x : V) : Prop := ∃ a r, x = .ref a ∧ SqT K H a (.int p.1 :: .str p.2 :: r)
@[irreducible] def sp_look_at_part (K : PySem.W.Frag) : Sp := fun vs H Q _ => ∃ (path x : V) (ah ln : Addr) (least : Int) (p : Int × Str) (ps : List (Int × Str)) (xs : List V) (a : Addr) (r : List V) (ls : List Int),
  vs = [path, x, .ref ah, .int least, .ref ln] ∧ x = .ref a ∧ SqT K H a (.int p.1 :: .str p.2 :: r) ∧ SqT K H ln (ls.map V.int) ∧ ((2 + r.length : Nat) : Int) ∈ ls ∧ Sq K H ah xs ∧ Paired (PartV K H) ps xs ∧ xs.length ≤ 1000 ∧
  NameOk p.2 ∧ p.2 ∉ ps.map (·.2) ∧ p.1 ∉ ps.map (·.1) ∧ least ≤ p.1 ∧ p.1 ≤ 99 ∧ ∀ H', Kp [] H H' → Q .non H'
end K02

namespace K02
open PySem PySem.Spec PyProof.Rows L2 Kb
structure OwnSchema (K : PySem.W.Frag) (C : Addr) : Prop where
  cl : Cls K C
  n_kinds : NoAttr K C "kinds"
  n_choices : NoAttr K C "choices"
  n_root : NoAttr K C "root"
  eq : PlainCls K C
  kb : PySem.W.kitOne K (.ref C) (.type "bool") = some false
structure Tb where
  a : Addr
  b : Addr
  c : Addr
structure Own (K : PySem.W.Frag) (C : Addr) : Prop where
  Schema : OwnSchema K (cAt K "Schema")

def t_is_whole (K : PySem.W.Frag) : TS :=
 (tRet (tAndV (tCB (rIsiU K) (tCons (tVar 0) (tCons (tC (.ty "int")) tNil))) (tNotV (tCB (rIsiU K) (tCons (tVar 0) (tCons (tC (.ty "bool")) tNil))))))
def t_is_within (K : PySem.W.Frag) : TS :=
 (tSeq (tIfS (tOr (tNot (tTru K (tCall (sp_is_whole K) [] E0 (tCons (tVar 0) tNil)))) (tAnd (tTest (tOp rNotNU (tVar 1) (tC .non))) (tTest (tOp rLtU (tVar 0) (tVar 1)))))
 (tRet (tC (.bl false)))
 tNext)
 (tRet (tOrV (tOp rIsNU (tVar 2) (tC .non)) (tOp rLeU (tVar 0) (tVar 2)))))
def t_is_row (K : PySem.W.Frag) : TS :=
 (tRet (tCB (rIsiU K) (tCons (tVar 0) (tCons (tTup (tCons (tC (.ty "list")) (tCons (tC (.ty "tuple")) tNil))) tNil))))
def t_left_of (K : PySem.W.Frag) : TS :=
 (tRet (tSl (rSlA K) (tVar 0) (tPart (tC (.int 3))) tNoPart))
def t_is_name (K : PySem.W.Frag) : TS :=
 (tSeq (tIfS (tOr (tNot (tTru K (tCB (rIsiU K) (tCons (tVar 0) (tCons (tC (.ty "str")) tNil))))) (tNot (tTest (tChain rLeU rLeU (tC (.int 1)) (tCB (rLenU K) (tCons (tVar 0) tNil)) (tC (.int 8))))))
 (tRet (tC (.bl false)))
 tNext)
 (tRet (tCB (rAllU K) (tCons (tLc (iStr (tVar 0)) (gName 1) tYes (tOp (rInU K) (tVar 1) (tC (.str (PySem.Str.ofString "abcdefghijklmnopqrstuvwxyz")))) [1]) tNil))))
def t_is_bounds (K : PySem.W.Frag) : TS :=
 (tSeq (tIfS (tNot (tTru K (tCB (rAllU K) (tCons (tLc (iTup K (tTup (tCons (tVar 0) (tCons (tVar 1) tNil)))) (gName 2) tYes (tOrV (tOp rIsNU (tVar 2) (tC .non)) (tCall (sp_is_whole K) [] E0 (tCons (tVar 2) tNil))) [2]) tNil))))
 (tRet (tC (.bl false)))
 tNext)
 (tRet (tOrV (tOp rIsNU (tVar 0) (tC .non)) (tOrV (tOp rIsNU (tVar 1) (tC .non)) (tOp rLeU (tVar 0) (tVar 1))))))
def t_is_known (K : PySem.W.Frag) : TS :=
 (tRet (tAndV (tCB (rIsiU K) (tCons (tVar 1) (tCons (tC (.ty "str")) tNil))) (tDIn (tVar 1) (tVar 0))))
@[irreducible] def b_is_sort_0 (K : PySem.W.Frag) (n : Nat) : TS :=
 (tSeq (tIfS (tTest (tOp (rEqU K) (tVar 4) (tC (.str (PySem.Str.ofString "truth")))))
 (tRet (tOp (rEqX K) (tVar 5) (tLst tNil)))
 tNext)
 (tSeq (tIfS (tTest (tOp (rEqU K) (tVar 4) (tC (.str (PySem.Str.ofString "number")))))
 (tRet (tAndV (tOp (rEqU K) (tCB (rLenU K) (tCons (tVar 5) tNil)) (tC (.int 2))) (tCall (sp_is_bounds K) [] E0 (tCons (tOp (rIxU K) (tVar 5) (tC (.int 0))) (tCons (tOp (rIxU K) (tVar 5) (tC (.int 1))) tNil)))))
 tNext)
 (tSeq (tIfS (tTest (tOp (rEqU K) (tVar 4) (tC (.str (PySem.Str.ofString "text")))))
 (tRet (tAndV (tOp (rEqU K) (tCB (rLenU K) (tCons (tVar 5) tNil)) (tC (.int 1))) (tCall (sp_is_within K) [] E0 (tCons (tOp (rIxU K) (tVar 5) (tC (.int 0))) (tCons (tC (.int 0)) (tCons (tC (.int 40)) tNil))))))
 tNext)
 (tSeq (tIfS (tTest (tOp (rEqU K) (tVar 4) (tC (.str (PySem.Str.ofString "row")))))
 (tRet (tAndV (tOp (rEqU K) (tCB (rLenU K) (tCons (tVar 5) tNil)) (tC (.int 2))) (tAndV (tCall (sp_is_within K) [] E0 (tCons (tOp (rIxU K) (tVar 5) (tC (.int 0))) (tCons (tC (.int 0)) (tCons (tC (.int 20)) tNil)))) (tCall (sp_is_sort K n) (([.int 0] : List V).drop 1) E0 (tCons (tVar 0) (tCons (tVar 1) (tCons (tOp (rIxU K) (tVar 5) (tC (.int 1))) (tCons (tOp (rAddU K) (tVar 3) (tC (.int 1))) tNil))))))))
 tNext)
 (tSeq (tIfS (tTest (tOp (rNeU K) (tCB (rLenU K) (tCons (tVar 5) tNil)) (tC (.int 1))))
 (tRet (tC (.bl false)))
 tNext)
 (tSeq (tIfS (tTest (tOp (rEqU K) (tVar 4) (tC (.str (PySem.Str.ofString "maybe")))))
 (tRet (tAndV (tCall (sp_is_sort K n) (([.int 0] : List V).drop 1) E0 (tCons (tVar 0) (tCons (tVar 1) (tCons (tOp (rIxU K) (tVar 5) (tC (.int 0))) (tCons (tOp (rAddU K) (tVar 3) (tC (.int 1))) tNil))))) (tOp (rNeU K) (tOp (rIxU K) (tOp (rIxU K) (tVar 5) (tC (.int 0))) (tC (.int 0))) (tC (.str (PySem.Str.ofString "maybe"))))))
 tNext)
 (tRet (tOrV (tAndV (tOp (rEqU K) (tVar 4) (tC (.str (PySem.Str.ofString "node")))) (tCall (sp_is_known K) [] E0 (tCons (tVar 0) (tCons (tOp (rIxU K) (tVar 5) (tC (.int 0))) tNil)))) (tAndV (tOp (rEqU K) (tVar 4) (tC (.str (PySem.Str.ofString "choice")))) (tCall (sp_is_known K) [] E0 (tCons (tVar 1) (tCons (tOp (rIxU K) (tVar 5) (tC (.int 0))) tNil))))))))))))
def t_is_sort (K : PySem.W.Frag) (n : Nat) : TS :=
 (tSeq (tIfS (tOr (tTest (tOp rGtU (tVar 3) (tC (.int 3)))) (tOr (tNot (tTru K (tCB (rIsiU K) (tCons (tVar 2) (tCons (tC (.ty "tuple")) tNil))))) (tOr (tTest (tOp (rEqX K) (tVar 2) (tTup tNil))) (tNot (tTru K (tCB (rIsiU K) (tCons (tOp (rIxU K) (tVar 2) (tC (.int 0))) (tCons (tC (.ty "str")) tNil))))))))
 (tRet (tC (.bl false)))
 tNext)
 (tSeq (tAsg (tVar 2) (gStar K 1 (gCons (gName 4) (gCons (gName 5) gNil))))
 (b_is_sort_0 K n)))
def t_is_default (K : PySem.W.Frag) : TS :=
 (tSeq (tIfS (tTest (tOp (rEqU K) (tOp (rIxU K) (tVar 0) (tC (.int 0))) (tC (.str (PySem.Str.ofString "number")))))
 (tRet (tAndV (tCall (sp_is_within K) [] E0 (tCons (tVar 1) (tCons (tOp (rIxU K) (tVar 0) (tC (.int 1))) (tCons (tOp (rIxU K) (tVar 0) (tC (.int 2))) tNil)))) (tOp rLeU (tCB rAbsU (tCons (tVar 1) tNil)) (tC (.int 999999999999999999999999999999999999999999999999999999999999)))))
 tNext)
 (tSeq (tIfS (tTest (tOp (rEqU K) (tOp (rIxU K) (tVar 0) (tC (.int 0))) (tC (.str (PySem.Str.ofString "truth")))))
 (tRet (tCB (rIsiU K) (tCons (tVar 1) (tCons (tC (.ty "bool")) tNil))))
 tNext)
 (tSeq (tIfS (tTest (tOp (rEqU K) (tOp (rIxU K) (tVar 0) (tC (.int 0))) (tC (.str (PySem.Str.ofString "text")))))
 (tRet (tAndV (tCB (rIsiU K) (tCons (tVar 1) (tCons (tC (.ty "str")) tNil))) (tOp rLeU (tCB (rLenU K) (tCons (tVar 1) tNil)) (tOp (rIxU K) (tVar 0) (tC (.int 1))))))
 tNext)
 (tSeq (tIfS (tTest (tOp (rEqU K) (tOp (rIxU K) (tVar 0) (tC (.int 0))) (tC (.str (PySem.Str.ofString "row")))))
 (tRet (tAndV (tCB (rIsiU K) (tCons (tVar 1) (tCons (tC (.ty "tuple")) tNil))) (tOp (rEqX K) (tVar 1) (tTup tNil))))
 tNext)
 (tRet (tAndV (tOp (rEqU K) (tOp (rIxU K) (tVar 0) (tC (.int 0))) (tC (.str (PySem.Str.ofString "maybe")))) (tOp rIsNU (tVar 1) (tC .non))))))))
def t_refuse_if (K : PySem.W.Frag) : TS :=
 (tIfS (tTru K (tVar 0))
 tNever
 tNext)
def t_look_at_heading (K : PySem.W.Frag) : TS :=
 (tSeq (tDrop (tCall (sp_refuse_if K) [] E0 (tCons (tNotV (tCall (sp_is_name K) [] E0 (tCons (tVar 1) tNil))) (tCons (tTup (tCons (tVar 0) (tCons (tVar 1) (tCons (tUn rNegU (tC (.int 1))) tNil)))) (tCons (tC (.str (PySem.Str.ofString "name"))) tNil)))))
 (tDrop (tCall (sp_refuse_if K) [] E0 (tCons (tNotV (tCall (sp_is_row K) [] E0 (tCons (tVar 2) tNil))) (tCons (tTup (tCons (tVar 0) (tCons (tVar 1) (tCons (tUn rNegU (tC (.int 1))) tNil)))) (tCons (tC (.str (PySem.Str.ofString "row"))) tNil))))))
def t_look_at_part (K : PySem.W.Frag) : TS :=
 (tSeq (tDrop (tCall (sp_refuse_if K) [] E0 (tCons (tOrV (tNotV (tCB (rIsiU K) (tCons (tVar 1) (tCons (tC (.ty "tuple")) tNil)))) (tOp (rNotInU K) (tCB (rLenU K) (tCons (tVar 1) tNil)) (tVar 4))) (tCons (tVar 0) (tCons (tC (.str (PySem.Str.ofString "row"))) tNil)))))
 (tSeq (tDrop (tCall (sp_refuse_if K) [] E0 (tCons (tOrV (tNotV (tCall (sp_is_name K) [] E0 (tCons (tOp (rIxU K) (tVar 1) (tC (.int 1))) tNil))) (tOp (rInU K) (tOp (rIxU K) (tVar 1) (tC (.int 1))) (tLc (iSeq K (tVar 2)) (gName 5) tYes (tOp (rIxU K) (tVar 5) (tC (.int 1))) [5]))) (tCons (tVar 0) (tCons (tC (.str (PySem.Str.ofString "name"))) tNil)))))
 (tSeq (tDrop (tCall (sp_refuse_if K) [] E0 (tCons (tNotV (tCall (sp_is_within K) [] E0 (tCons (tOp (rIxU K) (tVar 1) (tC (.int 0))) (tCons (tVar 3) (tCons (tC (.int 99)) tNil))))) (tCons (tVar 0) (tCons (tC (.str (PySem.Str.ofString "number"))) tNil)))))
 (tDrop (tCall (sp_refuse_if K) [] E0 (tCons (tOp (rInU K) (tOp (rIxU K) (tVar 1) (tC (.int 0))) (tLc (iSeq K (tVar 2)) (gName 5) tYes (tOp (rIxU K) (tVar 5) (tC (.int 0))) [5])) (tCons (tVar 0) (tCons (tC (.str (PySem.Str.ofString "number"))) tNil))))))))
end K02

/-! ## the program's schemas: the class -/
namespace K02
open PySem PySem.Spec PyProof.Rows L2 Kb
open LamX (TabS)
def qa : Str := ("Schema.take_kind" : Str) ++ ".<locals>." ++ "<lambda>"
def qb : Str := ("Schema.take_choice" : Str) ++ ".<locals>." ++ "<lambda>"
def qc : Str := ("_law_sorted" : Str) ++ ".<locals>." ++ "<lambda>"
/-- the tables of the lambdas -/
structure Tbl (Pt : Tb) (H : Hp) : Prop where
  a : TabS H Pt.a qa
  b : TabS H Pt.b qb
  c : TabS H Pt.c qc
  ab : Pt.a ≠ Pt.b
  ac : Pt.a ≠ Pt.c
  bc : Pt.b ≠ Pt.c
def schF (D1 D2 : Addr) (root : V) : List (Str × V) := [("kinds", .ref D1), ("choices", .ref D2), ("root", root)]
/-- good fields in a row -/
structure RowF (K : PySem.W.Frag) (H : Hp) (nk ck : Str → Prop) (fls : List Fld) (xs : List V) : Prop where
  at_ : Paired (FldV K H) fls xs
  ok : ∀ f ∈ fls, f.ok nk ck
  names : (fls.map (·.name)).Nodup
  nums : (fls.map (·.num)).Nodup
  le : xs.length ≤ 1000
structure RowC (K : PySem.W.Frag) (H : Hp) (nk ck : Str → Prop) (cs : List Cse) (xs : List V) : Prop where
  at_ : Paired (CseV K H) cs xs
  ok : ∀ c ∈ cs, c.ok nk ck
  names : (cs.map (·.name)).Nodup
  nums : (cs.map (·.num)).Nodup
  ne : cs ≠ []
  le : xs.length ≤ 1000
@[irreducible] def sp_Schema_take_kind (K : PySem.W.Frag) (Pt : Tb) : Sp := fun vs H Q _ => ∃ a ka ca z ra dx D1 D2 root kvs kk ck fls xs, vs = [.ref a, .ref ka, .ref ca, .str z, .ref ra] ∧ H a = some (.ins (cAt K "Schema") dx (schF D1 D2 root)) ∧ H D1 = some (.dK kvs) ∧ kvs.length ≤ 1000 ∧
  Rd H ka (.dK kk) ∧ Rd H ca (.dK ck) ∧ NameOk z ∧ Sq K H ra xs ∧ RowF K H (keyIn kk) (keyIn ck) fls xs ∧ Tbl Pt H ∧
  ∀ H' T ys, Kp [D1, Pt.a] H H' → Tbl Pt H' → H T = none → H' T = some (.tup ys) → ByKey (fls.map (·.num)) xs ys → H' D1 = some (.dK (putK kvs (.inr z) (.ref T))) → Q .non H'
@[irreducible] def sp_Schema_take_choice (K : PySem.W.Frag) (Pt : Tb) : Sp := fun vs H Q _ => ∃ a ka ca z ra dx D1 D2 root kvs kk ck cs xs, vs = [.ref a, .ref ka, .ref ca, .str z, .ref ra] ∧ H a = some (.ins (cAt K "Schema") dx (schF D1 D2 root)) ∧ H D2 = some (.dK kvs) ∧ kvs.length ≤ 1000 ∧
  Rd H ka (.dK kk) ∧ Rd H ca (.dK ck) ∧ NameOk z ∧ Sq K H ra xs ∧ RowC K H (keyIn kk) (keyIn ck) cs xs ∧ Tbl Pt H ∧
  ∀ H' T ys, Kp [D2, Pt.b] H H' → Tbl Pt H' → H T = none → H' T = some (.tup ys) → ByKey (cs.map (·.num)) xs ys → H' D2 = some (.dK (putK kvs (.inr z) (.ref T))) → Q .non H'
/-- where the content of a choice's first case leads -/
def Leads (K : PySem.W.Frag) (H : Hp) (kvs : List (L2.Key × V)) (z : Str) (to : Option Str) : Prop := ∃ T c r num nm y, valV kvs (.inr z) = some (.ref T) ∧ H T = some (.tup (.ref c :: r)) ∧ SqT K H c [num, nm, y] ∧
  match to with
  | some z' => ∃ b, y = .ref b ∧ SqT K H b [.str "choice", .str z']
  | none => y = .non ∨ ∃ b w r', y = .ref b ∧ SqT K H b (.str w :: r') ∧ w ≠ "choice"
@[irreducible] def sp_Schema_comes_back (K : PySem.W.Frag) : Sp := fun vs H Q _ => ∃ a z dx D1 D2 root kvs, ∃ rank : Str → Nat, ∃ N : Nat, vs = [.ref a, .str z] ∧ H a = some (.ins (cAt K "Schema") dx (schF D1 D2 root)) ∧ Rd H D2 (.dK kvs) ∧ N ≤ 1000 ∧
  (∀ z, keyIn kvs z → ∃ to, Leads K H kvs z to ∧ ∀ z', to = some z' → keyIn kvs z' ∧ rank z < rank z' ∧ rank z' ≤ N) ∧ keyIn kvs z ∧ ∀ H', Kp [] H H' → Q (.bl false) H'
/-- a kind's row in a schema's table: its name, where it is, its fields -/
structure KRow where
  name : Str
  adr : Addr
  fls : List Fld
  xs : List V
structure CRow where
  name : Str
  adr : Addr
  cs : List Cse
  xs : List V
def KRow.kv (r : KRow) : L2.Key × V := (.inr r.name, .ref r.adr)
def CRow.kv (r : CRow) : L2.Key × V := (.inr r.name, .ref r.adr)
def KRow.row (r : KRow) : Str × List Int × List V := (r.name, r.fls.map (·.num), r.xs)
def CRow.row (r : CRow) : Str × List Int × List V := (r.name, r.cs.map (·.num), r.xs)
structure KRow.ok (K : PySem.W.Frag) (H : Hp) (nk ck : Str → Prop) (r : KRow) : Prop where
  name : NameOk r.name
  sq : Sq K H r.adr r.xs
  row : RowF K H nk ck r.fls r.xs
structure CRow.ok (K : PySem.W.Frag) (H : Hp) (nk ck : Str → Prop) (rank : Str → Nat) (N : Nat) (r : CRow) : Prop where
  name : NameOk r.name
  sq : Sq K H r.adr r.xs
  row : RowC K H nk ck r.cs r.xs
  up : ∀ c ∈ r.cs, (∀ d ∈ r.cs, c.num ≤ d.num) → ∀ z', c.s = some (.pick z') → rank r.name < rank z' ∧ rank z' ≤ N
/-- a schema's own table: tuples by rising numbers, made anew -/
def Done (H H' : Hp) (rs : List (Str × List Int × List V)) (kvs : List (L2.Key × V)) : Prop := Paired (fun (r : Str × List Int × List V) (kv : L2.Key × V) => kv.1 = .inr r.1 ∧ ∃ T ys, kv.2 = .ref T ∧ H T = none ∧ H' T = some (.tup ys) ∧ ByKey r.2.1 r.2.2 ys) rs kvs
@[irreducible] def sp_Schema___init__ (K : PySem.W.Frag) (Pt : Tb) : Sp := fun vs H Q _ => ∃ a ka cv root dx s, ∃ FK : List KRow, ∃ CK : List CRow, ∃ rank : Str → Nat, ∃ N : Nat, vs = [.ref a, .ref ka, cv, root] ∧ H a = some (.ins (cAt K "Schema") dx []) ∧ H ka = some (.dK (FK.map KRow.kv)) ∧
  ((cv = .non ∧ CK = []) ∨ ∃ ca, cv = .ref ca ∧ H ca = some (.dK (CK.map CRow.kv)) ∧ ca ≠ ka) ∧ FK.length ≤ 100 ∧ CK.length ≤ 100 ∧ (FK.map (·.name)).Nodup ∧ (CK.map (·.name)).Nodup ∧
  (∀ r ∈ FK, r.ok K H (keyIn (FK.map KRow.kv)) (keyIn (CK.map CRow.kv))) ∧ (∀ r ∈ CK, r.ok K H (keyIn (FK.map KRow.kv)) (keyIn (CK.map CRow.kv)) rank N) ∧ N ≤ 1000 ∧
  SrtV K H s root ∧ s.ok (keyIn (FK.map KRow.kv)) (keyIn (CK.map CRow.kv)) 3 ∧ Tbl Pt H ∧
  ∀ H' D1 D2 kvs1 kvs2, Kp [a, Pt.a, Pt.b] H H' → Tbl Pt H' → H' a = some (.ins (cAt K "Schema") dx (schF D1 D2 root)) → H D1 = none → H D2 = none → D1 ≠ D2 → H' D1 = some (.dK kvs1) → H' D2 = some (.dK kvs2) →
    Done H H' (FK.map KRow.row) kvs1 → Done H H' (CK.map CRow.row) kvs2 → Q .non H'
end K02

namespace K02
open PySem PySem.Spec PyProof.Rows L2 Kb
def t_Schema_take_kind (K : PySem.W.Frag) (C : Addr) (Pt : Tb) : TS :=
 (tSeq (tDrop (tCall (sp_look_at_heading K) [] E0 (tCons (tC (.str (PySem.Str.ofString "kind"))) (tCons (tVar 3) (tCons (tVar 4) tNil)))))
 (tSeq (tFor (iEnumV K (tVar 4)) (gTup K 2 (gCons (gName 5) (gCons (gName 6) gNil)))
 (tSeq (tAsg (tTup (tCons (tC (.str (PySem.Str.ofString "kind"))) (tCons (tVar 3) (tCons (tVar 5) tNil)))) (gName 7))
 (tSeq (tDrop (tCall (sp_look_at_part K) [] E0 (tCons (tVar 7) (tCons (tVar 6) (tCons (tSl (rSlV K) (tVar 4) tNoPart (tPart (tVar 5))) (tCons (tC (.int 1)) (tCons (tTup (tCons (tC (.int 3)) (tCons (tC (.int 4)) tNil))) tNil)))))))
 (tSeq (tDrop (tCall (sp_refuse_if K) [] E0 (tCons (tNotV (tCall (sp_is_sort K 4) (([.int 0] : List V).drop 0) E0 (tCons (tVar 1) (tCons (tVar 2) (tCons (tOp (rIxU K) (tVar 6) (tC (.int 2))) tNil))))) (tCons (tVar 7) (tCons (tC (.str (PySem.Str.ofString "sort"))) tNil)))))
 (tDrop (tCall (sp_refuse_if K) [] E0 (tCons (tNotV (tCB (rAllU K) (tCons (tLc (iTup K (tCall (sp_left_of K) [] E0 (tCons (tVar 6) tNil))) (gName 8) tYes (tCall (sp_is_default K) [] E0 (tCons (tOp (rIxU K) (tVar 6) (tC (.int 2))) (tCons (tVar 8) tNil))) [8]) tNil))) (tCons (tVar 7) (tCons (tC (.str (PySem.Str.ofString "default"))) tNil)))))))))
 (sDPut (tUn (rFldU K "kinds") (tVar 0)) (tVar 3) (tCB (rTupleU K) (tCons (tSortKey K Pt.a (("Schema.take_kind" : Str) ++ ".<locals>." ++ "<lambda>") (tVar 4)) tNil)))))
def t_Schema_take_choice (K : PySem.W.Frag) (C : Addr) (Pt : Tb) : TS :=
 (tSeq (tDrop (tCall (sp_look_at_heading K) [] E0 (tCons (tC (.str (PySem.Str.ofString "choice"))) (tCons (tVar 3) (tCons (tVar 4) tNil)))))
 (tSeq (tDrop (tCall (sp_refuse_if K) [] E0 (tCons (tOp (rEqU K) (tCB (rLenU K) (tCons (tVar 4) tNil)) (tC (.int 0))) (tCons (tTup (tCons (tC (.str (PySem.Str.ofString "choice"))) (tCons (tVar 3) (tCons (tUn rNegU (tC (.int 1))) tNil)))) (tCons (tC (.str (PySem.Str.ofString "row"))) tNil)))))
 (tSeq (tFor (iEnumV K (tVar 4)) (gTup K 2 (gCons (gName 5) (gCons (gName 6) gNil)))
 (tSeq (tAsg (tTup (tCons (tC (.str (PySem.Str.ofString "choice"))) (tCons (tVar 3) (tCons (tVar 5) tNil)))) (gName 7))
 (tSeq (tDrop (tCall (sp_look_at_part K) [] E0 (tCons (tVar 7) (tCons (tVar 6) (tCons (tSl (rSlV K) (tVar 4) tNoPart (tPart (tVar 5))) (tCons (tC (.int 0)) (tCons (tTup (tCons (tC (.int 3)) tNil)) tNil)))))))
 (tSeq (tAsg (tVar 6) (gTup K 3 (gCons (gName 8) (gCons (gName 9) (gCons (gName 10) gNil)))))
 (tSeq (tDrop (tCall (sp_refuse_if K) [] E0 (tCons (tAndV (tOp rNotNU (tVar 10) (tC .non)) (tNotV (tCall (sp_is_sort K 4) (([.int 0] : List V).drop 0) E0 (tCons (tVar 1) (tCons (tVar 2) (tCons (tVar 10) tNil)))))) (tCons (tVar 7) (tCons (tC (.str (PySem.Str.ofString "sort"))) tNil)))))
 (tDrop (tCall (sp_refuse_if K) [] E0 (tCons (tAndV (tOp (rEqU K) (tVar 8) (tC (.int 0))) (tOp rNotNU (tVar 10) (tC .non))) (tCons (tVar 7) (tCons (tC (.str (PySem.Str.ofString "sort"))) tNil))))))))))
 (sDPut (tUn (rFldU K "choices") (tVar 0)) (tVar 3) (tCB (rTupleU K) (tCons (tSortKey K Pt.b (("Schema.take_choice" : Str) ++ ".<locals>." ++ "<lambda>") (tVar 4)) tNil))))))
def t_Schema_comes_back (K : PySem.W.Frag) (C : Addr) : TS :=
 (tSeq (tAsg tDNewK (gName 2))
 (tSeq (tAsg (tVar 1) (gName 3))
 (tSeq (tWhile (tB (tDNotIn (tVar 3) (tVar 2)))
 (tSeq (sDPut (tVar 2) (tVar 3) (tC (.bl true)))
 (tSeq (tAsg (tOp (rIxU K) (tOp (rIxU K) (tDGet (tUn (rFldU K "choices") (tVar 0)) (tVar 3)) (tC (.int 0))) (tC (.int 2))) (gName 4))
 (tSeq (tIfS (tOr (tTest (tOp rIsNU (tVar 4) (tC .non))) (tTest (tOp (rNeU K) (tOp (rIxU K) (tVar 4) (tC (.int 0))) (tC (.str (PySem.Str.ofString "choice"))))))
 (tRet (tC (.bl false)))
 tNext)
 (tAsg (tOp (rIxU K) (tVar 4) (tC (.int 1))) (gName 3))))))
 (tRet (tOp (rEqU K) (tVar 3) (tVar 1))))))
@[irreducible] def b_Schema___init___2 (K : PySem.W.Frag) (C : Addr) (Pt : Tb) : TS :=
 (tLock (tFor (iKeys (tUn (rFldU K "choices") (tVar 0))) (gName 5)
 (tDrop (tCall (sp_refuse_if K) [] E0 (tCons (tMethU (cAt K "Schema") "comes_back" (sp_Schema_comes_back K) E0 (tVar 0) (tCons (tVar 5) tNil)) (tCons (tTup (tCons (tC (.str (PySem.Str.ofString "choice"))) (tCons (tVar 5) (tCons (tUn rNegU (tC (.int 1))) tNil)))) (tCons (tC (.str (PySem.Str.ofString "sort"))) tNil)))))))
@[irreducible] def b_Schema___init___1 (K : PySem.W.Frag) (C : Addr) (Pt : Tb) : TS :=
 (tSeq (tLock (tFor (iItems (tVar 4)) (gTup K 2 (gCons (gName 5) (gCons (gName 6) gNil)))
 (tDrop (tMethU (cAt K "Schema") "take_choice" (sp_Schema_take_choice K Pt) E0 (tVar 0) (tCons (tVar 1) (tCons (tVar 4) (tCons (tVar 5) (tCons (tVar 6) tNil))))))))
 (tSeq (tDrop (tCall (sp_refuse_if K) [] E0 (tCons (tNotV (tCall (sp_is_sort K 4) (([.int 0] : List V).drop 0) E0 (tCons (tVar 1) (tCons (tVar 4) (tCons (tVar 3) tNil))))) (tCons (tTup (tCons (tC (.str (PySem.Str.ofString "root"))) tNil)) (tCons (tC (.str (PySem.Str.ofString "sort"))) tNil)))))
 (b_Schema___init___2 K C Pt)))
@[irreducible] def b_Schema___init___0 (K : PySem.W.Frag) (C : Addr) (Pt : Tb) : TS :=
 (tSeq (tLock (tFor (iItems (tVar 1)) (gTup K 2 (gCons (gName 5) (gCons (gName 6) gNil)))
 (tDrop (tMethU (cAt K "Schema") "take_kind" (sp_Schema_take_kind K Pt) E0 (tVar 0) (tCons (tVar 1) (tCons (tVar 4) (tCons (tVar 5) (tCons (tVar 6) tNil))))))))
 (b_Schema___init___1 K C Pt))
def t_Schema___init__ (K : PySem.W.Frag) (C : Addr) (Pt : Tb) : TS :=
 (tSeq (tAsg (tIf (tTest (tOp rIsNU (tVar 2) (tC .non))) tDNewK (tVar 2)) (gName 4))
 (tSeq (tAsg (tTup (tCons tDNewK (tCons tDNewK (tCons (tVar 3) tNil)))) (gTup K 3 (gCons (gFldU K (tVar 0) "kinds") (gCons (gFldU K (tVar 0) "choices") (gCons (gFldU K (tVar 0) "root") gNil)))))
 (b_Schema___init___0 K C Pt)))
end K02

/-! ## k02: promises of the law's defs -/
namespace K02
open PySem PySem.Spec PyProof.Rows L2 Kb
open LamX (TabS)
/-- the well of the draws: three numbers; n draws at most have been made -/
def Wel (H : Hp) (S : Addr) (n : Nat) : Prop := ∃ d m c : Int, H S = some (.lst [.int d, .int m, .int c]) ∧ 0 ≤ m ∧ m < 2147483647 ∧ 0 ≤ c ∧ c ≤ n
@[irreducible] def sp_law_well (K : PySem.W.Frag) : Sp := fun vs H Q _ => ∃ i : Int, vs = [.int i] ∧ ∀ p o, H p = none → Wel (upd H p o) p 0 → Q (.ref p) (upd H p o)
@[irreducible] def sp_law_draw (K : PySem.W.Frag) : Sp := fun vs H Q _ => ∃ S m n, vs = [.ref S, .int m] ∧ Wel H S n ∧ n ≤ 1000000000 ∧ 0 < m ∧ m < 1073741824 ∧ ∀ H' r, Kp [S] H H' → Wel H' S (n + 1) → 0 ≤ r → r < m → Q (.int r) H'
/-- a list of texts -/
def Nms (H : Hp) (a : Addr) (zs : List Str) : Prop := H a = some (.lst (zs.map V.str)) ∧ zs.length ≤ 10
@[irreducible] def sp_law_names (K : PySem.W.Frag) : Sp := fun vs H Q _ => ∃ S n, ∃ m : Int, vs = [.ref S, .int m] ∧ Wel H S n ∧ n ≤ 100000000 ∧ 0 ≤ m ∧ m ≤ 6 ∧
  ∀ H' p zs, Kp [S] H H' → Wel H' S (n + 100) → H p = none → Nms H' p zs → (zs.length : Int) = m → zs.Nodup → (∀ z ∈ zs, NameOk z) → Q (.ref p) H'
@[irreducible] def sp_law_number (K : PySem.W.Frag) : Sp := fun vs H Q _ => ∃ S n, vs = [.ref S] ∧ Wel H S n ∧ n ≤ 100000000 ∧ ∀ H' i, Kp [S] H H' → Wel H' S (n + 8) → -GREAT ≤ i → i ≤ GREAT → Q (.int i) H'
/-- the bounds of a sort of numbers are not too great, a text's length is not below 0 -/
def Srt.small : Srt → Prop
  | .num lo hi => (∀ l, lo = some l → -GREAT ≤ l ∧ l ≤ GREAT) ∧ ∀ h, hi = some h → -GREAT ≤ h ∧ h ≤ GREAT
  | .text n => 0 ≤ n ∧ n ≤ 40
  | _ => True
@[irreducible] def sp_law_sort (K : PySem.W.Frag) : Nat → Sp
  | 0 => fun _ _ _ _ => False
  | d + 1 => fun vs H Q _ => ∃ S A B n deep zs ws, vs = [.ref S, .ref A, .ref B, .int deep] ∧ Wel H S n ∧ n + 100 * d ≤ 10000000 ∧ A ≠ S ∧ B ≠ S ∧ Nms H A zs ∧ Nms H B ws ∧ 0 ≤ deep ∧ deep ≤ d ∧
    ∀ H' x s, Kp [S] H H' → Wel H' S (n + 30 * (d + 1)) → SrtV K H' s x → s.ok (· ∈ zs) (· ∈ ws) d → s.small → Q x H'
@[irreducible] def sp_law_left (K : PySem.W.Frag) : Sp := fun vs H Q _ => ∃ S n x s, vs = [.ref S, x] ∧ Wel H S n ∧ n ≤ 100000000 ∧ SrtV K H s x ∧ s.small ∧
  ∀ H' p ls, Kp [S] H H' → Wel H' S (n + 5) → SqT K H' p ls → (ls = [] ∨ ∃ v, ls = [v] ∧ DfOk K H' s v) → Q (.ref p) H'
@[irreducible] def sp_law_fields (K : PySem.W.Frag) : Sp := fun vs H Q _ => ∃ S A B n zs ws, vs = [.ref S, .ref A, .ref B] ∧ Wel H S n ∧ n ≤ 1000000 ∧ A ≠ S ∧ B ≠ S ∧ Nms H A zs ∧ Nms H B ws ∧
  ∀ H' p fls xs, Kp [S] H H' → Wel H' S (n + 1000) → H p = none → H' p = some (.lst xs) → RowF K H' (· ∈ zs) (· ∈ ws) fls xs → xs.length ≤ 10 → Q (.ref p) H'
/-- the first place of a name -/
def plc (ws : List Str) (z : Str) : Nat := ws.findIdx fun w => decide (w = z)
@[irreducible] def sp_law_cases (K : PySem.W.Frag) : Sp := fun vs H Q _ => ∃ S A B n zs ws, ∃ k : Nat, vs = [.ref S, .ref A, .ref B, .int k] ∧ Wel H S n ∧ n ≤ 1000000 ∧ A ≠ S ∧ B ≠ S ∧ Nms H A zs ∧ Nms H B ws ∧
  ∀ H' p cs xs, Kp [S] H H' → Wel H' S (n + 1000) → H p = none → H' p = some (.lst xs) → RowC K H' (· ∈ zs) (· ∈ ws) cs xs → xs.length ≤ 10 → (∀ c ∈ cs, (∀ d ∈ cs, c.num ≤ d.num) → ∀ z', c.s = some (.pick z') → k < plc ws z') → Q (.ref p) H'
/-- what the parts hold: the kinds, the choices, the root -/
structure Good (K : PySem.W.Frag) (H : Hp) (FK : List KRow) (CK : List CRow) (rank : Str → Nat) (N : Nat) (s : Srt) (x : V) : Prop where
  lk : FK.length ≤ 10
  lc : CK.length ≤ 10
  nk : (FK.map (·.name)).Nodup
  nc : (CK.map (·.name)).Nodup
  okK : ∀ r ∈ FK, r.ok K H (keyIn (FK.map KRow.kv)) (keyIn (CK.map CRow.kv))
  okC : ∀ r ∈ CK, r.ok K H (keyIn (FK.map KRow.kv)) (keyIn (CK.map CRow.kv)) rank N
  N : N ≤ 1000
  srt : SrtV K H s x
  sok : s.ok (keyIn (FK.map KRow.kv)) (keyIn (CK.map CRow.kv)) 3
  lsK : ∀ r ∈ FK, r.xs.length ≤ 10
  lsC : ∀ r ∈ CK, r.xs.length ≤ 10
/-- a table: names, rows -/
structure Row where
  name : Str
  adr : Addr
  xs : List V
def Row.kv (r : Row) : L2.Key × V := (.inr r.name, .ref r.adr)
def KRow.r (r : KRow) : Row := ⟨r.name, r.adr, r.xs⟩
def CRow.r (r : CRow) : Row := ⟨r.name, r.adr, r.xs⟩
@[irreducible] def sp_law_parts (K : PySem.W.Frag) : Sp := fun vs H Q _ => ∃ S n, vs = [.ref S] ∧ Wel H S n ∧ n ≤ 100000 ∧
  ∀ H' p D1 D2 x FK CK rank N s, Kp [S] H H' → Wel H' S (n + 100000) → SqT K H' p [.ref D1, .ref D2, x] → H D1 = none → H D2 = none → D1 ≠ D2 → H' D1 = some (.dK (FK.map KRow.kv)) → H' D2 = some (.dK (CK.map CRow.kv)) → Good K H' FK CK rank N s x →
    (∀ r ∈ FK, H r.adr = none ∧ H' r.adr = some (.lst r.xs)) → (∀ r ∈ CK, H r.adr = none ∧ H' r.adr = some (.lst r.xs)) → Q (.ref p) H'
/-- a row formed: a new list or tuple of the same things -/
def Frm (H H' : Hp) (r r' : Row) : Prop := r'.name = r.name ∧ r'.xs = r.xs ∧ H r'.adr = none ∧ (H' r'.adr = some (.lst r.xs) ∨ H' r'.adr = some (.tup r.xs))
@[irreducible] def sp_law_formed (K : PySem.W.Frag) : Sp := fun vs H Q _ => ∃ S D n rs, vs = [.ref S, .ref D] ∧ Wel H S n ∧ n ≤ 1000000 ∧ H D = some (.dK (rs.map Row.kv)) ∧ (rs.map (·.name)).Nodup ∧ rs.length ≤ 10 ∧ (∀ r ∈ rs, H r.adr = some (.lst r.xs) ∧ r.adr ≠ S ∧ r.xs.length ≤ 10) ∧
  ∀ H' D' rs', Kp [S] H H' → Wel H' S (n + 10) → H D' = none → H' D' = some (.dK (rs'.map Row.kv)) → Paired (Frm H H') rs rs' → Q (.ref D') H'
/-- a row copied: its name, whether it is a list, its things -/
def Cop1 (K : PySem.W.Frag) (H : Hp) (r : Row) (x : V) : Prop := ∃ t l b, x = .ref t ∧ SqT K H t [.str r.name, .bl b, .ref l] ∧ H l = some (.lst r.xs) ∧ (b = true → H r.adr = some (.lst r.xs)) ∧ (b = false → H r.adr = some (.tup r.xs))
def Cop (K : PySem.W.Frag) (H : Hp) (rs : List Row) (x : V) : Prop := ∃ l xs, x = .ref l ∧ H l = some (.lst xs) ∧ Paired (Cop1 K H) rs xs
@[irreducible] def sp_law_copied (K : PySem.W.Frag) : Sp := fun vs H Q _ => ∃ p D1 D2 rs1 rs2, vs = [.ref p] ∧ H p = some (.lst [.ref D1, .ref D2]) ∧ H D1 = some (.dK (rs1.map Row.kv)) ∧ H D2 = some (.dK (rs2.map Row.kv)) ∧
  (∀ r ∈ rs1 ++ rs2, (H r.adr = some (.lst r.xs) ∨ H r.adr = some (.tup r.xs)) ∧ r.xs.length ≤ 10) ∧ rs1.length ≤ 10 ∧ rs2.length ≤ 10 ∧
  ∀ H' l x y, Kp [] H H' → H' l = some (.lst [x, y]) → Cop K H' rs1 x → Cop K H' rs2 y → Q (.ref l) H'
@[irreducible] def sp_law_sorted (K : PySem.W.Frag) (Pt : Tb) : Sp := fun vs H Q _ => ∃ D, ∃ rs : List (Row × List Int), vs = [.ref D] ∧ H D = some (.dK (rs.map fun r => r.1.kv)) ∧ rs.length ≤ 10 ∧ (rs.map fun r => r.1.name).Nodup ∧
  (∀ r ∈ rs, Sq K H r.1.adr r.1.xs ∧ r.1.xs.length ≤ 10 ∧ Paired (fun (k : Int) (y : V) => ∃ t q, y = .ref t ∧ SqT K H t (.int k :: q)) r.2 r.1.xs) ∧ Tbl Pt H ∧
  ∀ H' D' kvs, Kp [Pt.c] H H' → Tbl Pt H' → H D' = none → H' D' = some (.dK kvs) → Done H H' (rs.map fun r => (r.1.name, r.2, r.1.xs)) kvs → Q (.ref D') H'
@[irreducible] def sp_law_right (K : PySem.W.Frag) (Pt : Tb) : Sp := fun vs H Q _ => ∃ a p dx D1 D2 E1 E2 root FK CK rank N s k1 k2, ∃ H0 H1 : Hp, vs = [.ref a, .ref p] ∧ H a = some (.ins (cAt K "Schema") dx (schF D1 D2 root)) ∧ H D1 = some (.dK k1) ∧ H D2 = some (.dK k2) ∧ Done H0 H (FK.map KRow.row) k1 ∧ Done H1 H (CK.map CRow.row) k2 ∧
  SqT K H p [.ref E1, .ref E2, root] ∧ H E1 = some (.dK (FK.map KRow.kv)) ∧ H E2 = some (.dK (CK.map CRow.kv)) ∧ Good K H FK CK rank N s root ∧ Tbl Pt H ∧
  ∀ H', Kp [Pt.c] H H' → Tbl Pt H' → Q (.bl true) H'
def sp_law (K : PySem.W.Frag) (Pt : Tb) : Sp := fun vs H Q _ => ∃ (a : Addr) (ns : List Int), vs = [.ref a] ∧ SqL K H a (ns.map V.int) ∧ ns.length ≤ 63 ∧ Tbl Pt H ∧ ∀ H', Q (.bl true) H'
end K02

namespace K02
open PySem PySem.Spec PyProof.Rows L2 Kb
def t_law_well (K : PySem.W.Frag) : TS :=
 (tRet (tLst (tCons (tOp (rMulU K) (tVar 0) (tCB rIntU (tCons (tOp rGeU (tVar 0) (tOp rPowU (tC (.int 10)) (tC (.int 18)))) tNil))) (tCons (tOp rModU (tVar 0) (tC (.int 2147483647))) (tCons (tC (.int 0)) tNil)))))
def t_law_draw (K : PySem.W.Frag) : TS :=
 (tSeq (tIfS (tTest (tOp rGtU (tOp (rIxU K) (tVar 0) (tC (.int 0))) (tC (.int 0))))
 (tSeq (tAsg (tOp rModU (tOp (rIxU K) (tVar 0) (tC (.int 0))) (tVar 1)) (gName 2))
 (tSeq (tAsg (tOp rDivU (tOp (rIxU K) (tVar 0) (tC (.int 0))) (tVar 1)) (gSub (tVar 0) (tC (.int 0)) rSetU))
 (tRet (tVar 2))))
 tNext)
 (tSeq (tAsg (tOp (rAddU K) (tOp (rIxU K) (tVar 0) (tC (.int 2))) (tC (.int 1))) (gSub (tVar 0) (tC (.int 2)) rSetU))
 (tSeq (tAsg (tOp rModU (tOp (rMulU K) (tOp (rAddU K) (tOp (rAddU K) (tOp (rIxU K) (tVar 0) (tC (.int 1))) (tOp (rMulU K) (tC (.int 7919)) (tOp (rIxU K) (tVar 0) (tC (.int 2))))) (tC (.int 1))) (tC (.int 48271))) (tC (.int 2147483647))) (gName 3))
 (tSeq (tAsg (tOp rModU (tOp (rMulU K) (tVar 3) (tOp (rAddU K) (tOp rDivU (tVar 3) (tC (.int 1009))) (tC (.int 69621)))) (tC (.int 2147483647))) (gName 3))
 (tRet (tOp rModU (tOp rModU (tOp (rMulU K) (tVar 3) (tOp (rAddU K) (tOp rDivU (tVar 3) (tC (.int 2003))) (tC (.int 40692)))) (tC (.int 2147483399))) (tVar 1)))))))
@[irreducible] def b_law_names_1 (K : PySem.W.Frag) : TS :=
 (tSeq (tWhile (tTest (tOp (rInU K) (tVar 6) (tVar 3)))
 (tAsg (tOp (rAddU K) (tSl rSlSU (tVar 6) tNoPart (tPart (tUn rNegU (tC (.int 1))))) (tOp (rIxU K) (tVar 2) (tOp rModU (tOp (rAddU K) (tM1 rSIdx (tVar 2) (tOp (rIxU K) (tVar 6) (tUn rNegU (tC (.int 1))))) (tC (.int 1))) (tC (.int 26))))) (gName 6)))
 (tDrop (tBM K "list" rAppU (tVar 3) (tCons (tVar 6) tNil))))
@[irreducible] def b_law_names_0 (K : PySem.W.Frag) : TS :=
 (tSeq (tIfS (tAnd (tTest (tOp (rNeX K) (tVar 3) (tLst tNil))) (tTest (tOp (rEqU K) (tCall (sp_law_draw K) [] E0 (tCons (tVar 0) (tCons (tC (.int 3)) tNil))) (tC (.int 0)))))
 (tAsg (tOp (rAddU K) (tSl rSlSU (tOp (rIxU K) (tVar 3) (tUn rNegU (tC (.int 1)))) tNoPart (tPart (tC (.int 7)))) (tOp (rIxU K) (tVar 2) (tCall (sp_law_draw K) [] E0 (tCons (tVar 0) (tCons (tC (.int 26)) tNil))))) (gName 6))
 tNext)
 (b_law_names_1 K))
def t_law_names (K : PySem.W.Frag) : TS :=
 (tSeq (tAsg (tC (.str (PySem.Str.ofString "abcdefghijklmnopqrstuvwxyz"))) (gName 2))
 (tSeq (tAsg (tLst tNil) (gName 3))
 (tSeq (tFor (iRng1 (tCons (tVar 1) tNil)) (gName 4)
 (tSeq (tAsg (tOp (rAddU K) (tC (.int 1)) (tCall (sp_law_draw K) [] E0 (tCons (tVar 0) (tCons (tC (.int 8)) tNil)))) (gName 5))
 (tSeq (tAsg (tM1 (rJoin K) (tC (.str (PySem.Str.ofString ""))) (tLc (iRng1 (tCons (tVar 5) tNil)) (gName 7) tYes (tOp (rIxU K) (tVar 2) (tCall (sp_law_draw K) [] E0 (tCons (tVar 0) (tCons (tC (.int 26)) tNil)))) [7])) (gName 6))
 (b_law_names_0 K))))
 (tRet (tVar 3)))))
def t_law_number (K : PySem.W.Frag) : TS :=
 (tSeq (tAsg (tC (.int 0)) (gName 1))
 (tSeq (tFor (iRng1 (tCons (tC (.int 6)) tNil)) (gName 2)
 (tAsg (tOp (rAddU K) (tOp (rMulU K) (tVar 1) (tOp rPowU (tC (.int 10)) (tC (.int 9)))) (tCall (sp_law_draw K) [] E0 (tCons (tVar 0) (tCons (tOp rPowU (tC (.int 10)) (tC (.int 9))) tNil)))) (gName 1)))
 (tSeq (tAsg (tOp rSubU (tCall (sp_law_draw K) [] E0 (tCons (tVar 0) (tCons (tC (.int 19)) tNil))) (tC (.int 9))) (gName 3))
 (tRet (tOp (rIxU K) (tLst (tCons (tVar 3) (tCons (tVar 3) (tCons (tC (.int 0)) (tCons (tVar 1) (tCons (tOp rSubU (tC (.int 0)) (tVar 1)) (tCons (tOp (rAddU K) (tOp (rMulU K) (tVar 1) (tOp rPowU (tC (.int 10)) (tC (.int 5)))) (tC (.int 7))) tNil))))))) (tCall (sp_law_draw K) [] E0 (tCons (tVar 0) (tCons (tC (.int 6)) tNil))))))))
@[irreducible] def b_law_sort_4 (K : PySem.W.Frag) (n : Nat) : TS :=
 (tSeq (tIfS (tAnd (tTest (tOp rGtU (tVar 4) (tC (.int 6)))) (tTest (tOp (rNeX K) (tVar 1) (tLst tNil))))
 (tRet (tTup (tCons (tC (.str (PySem.Str.ofString "node"))) (tCons (tOp (rIxU K) (tVar 1) (tCall (sp_law_draw K) [] E0 (tCons (tVar 0) (tCons (tCB (rLenU K) (tCons (tVar 1) tNil)) tNil)))) tNil))))
 tNext)
 (tRet (tTup (tCons (tC (.str (PySem.Str.ofString "truth"))) tNil))))
@[irreducible] def b_law_sort_3 (K : PySem.W.Frag) (n : Nat) : TS :=
 (tSeq (tIfS (tAnd (tTest (tOp (rEqU K) (tVar 4) (tC (.int 6)))) (tTest (tOp rGtU (tVar 3) (tC (.int 0)))))
 (tSeq (tAsg (tCall (sp_law_sort K n) [] E0 (tCons (tVar 0) (tCons (tVar 1) (tCons (tVar 2) (tCons (tOp rSubU (tVar 3) (tC (.int 1))) tNil))))) (gName 7))
 (tRet (tOp (rIxU K) (tLst (tCons (tTup (tCons (tC (.str (PySem.Str.ofString "maybe"))) (tCons (tVar 7) tNil))) (tCons (tVar 7) tNil))) (tCB rIntU (tCons (tOp (rEqU K) (tOp (rIxU K) (tVar 7) (tC (.int 0))) (tC (.str (PySem.Str.ofString "maybe")))) tNil)))))
 tNext)
 (b_law_sort_4 K n))
@[irreducible] def b_law_sort_2 (K : PySem.W.Frag) (n : Nat) : TS :=
 (tSeq (tIfS (tAnd (tTest (tOp (rInU K) (tVar 4) (tLst (tCons (tC (.int 4)) (tCons (tC (.int 5)) tNil))))) (tTest (tOp rGtU (tVar 3) (tC (.int 0)))))
 (tRet (tTup (tCons (tC (.str (PySem.Str.ofString "row"))) (tCons (tOp (rIxU K) (tLst (tCons (tC (.int 0)) (tCons (tC (.int 20)) (tCons (tCall (sp_law_draw K) [] E0 (tCons (tVar 0) (tCons (tC (.int 21)) tNil))) tNil)))) (tCall (sp_law_draw K) [] E0 (tCons (tVar 0) (tCons (tC (.int 3)) tNil)))) (tCons (tCall (sp_law_sort K n) [] E0 (tCons (tVar 0) (tCons (tVar 1) (tCons (tVar 2) (tCons (tOp rSubU (tVar 3) (tC (.int 1))) tNil))))) tNil)))))
 tNext)
 (b_law_sort_3 K n))
@[irreducible] def b_law_sort_1 (K : PySem.W.Frag) (n : Nat) : TS :=
 (tSeq (tIfS (tAnd (tTest (tOp (rEqU K) (tVar 4) (tC (.int 3)))) (tTest (tOp (rNeX K) (tVar 2) (tLst tNil))))
 (tRet (tTup (tCons (tC (.str (PySem.Str.ofString "choice"))) (tCons (tOp (rIxU K) (tVar 2) (tCall (sp_law_draw K) [] E0 (tCons (tVar 0) (tCons (tCB (rLenU K) (tCons (tVar 2) tNil)) tNil)))) tNil))))
 tNext)
 (b_law_sort_2 K n))
@[irreducible] def b_law_sort_0 (K : PySem.W.Frag) (n : Nat) : TS :=
 (tSeq (tIfS (tTest (tOp rLtU (tVar 4) (tC (.int 2))))
 (tRet (tTup (tCons (tC (.str (PySem.Str.ofString "number"))) (tCons (tOp (rIxU K) (tLst (tCons (tC .non) (tCons (tVar 5) tNil))) (tCall (sp_law_draw K) [] E0 (tCons (tVar 0) (tCons (tC (.int 2)) tNil)))) (tCons (tOp (rIxU K) (tLst (tCons (tC .non) (tCons (tVar 6) (tCons (tVar 5) tNil)))) (tCall (sp_law_draw K) [] E0 (tCons (tVar 0) (tCons (tC (.int 3)) tNil)))) tNil)))))
 tNext)
 (tSeq (tIfS (tTest (tOp (rEqU K) (tVar 4) (tC (.int 2))))
 (tRet (tTup (tCons (tC (.str (PySem.Str.ofString "text"))) (tCons (tOp (rIxU K) (tLst (tCons (tC (.int 0)) (tCons (tC (.int 40)) (tCons (tCall (sp_law_draw K) [] E0 (tCons (tVar 0) (tCons (tC (.int 41)) tNil))) tNil)))) (tCall (sp_law_draw K) [] E0 (tCons (tVar 0) (tCons (tC (.int 3)) tNil)))) tNil))))
 tNext)
 (b_law_sort_1 K n)))
def t_law_sort (K : PySem.W.Frag) (n : Nat) : TS :=
 (tSeq (tAsg (tCall (sp_law_draw K) [] E0 (tCons (tVar 0) (tCons (tC (.int 9)) tNil))) (gName 4))
 (tSeq (tAsg (tCB (rSortedU K) (tCons (tLst (tCons (tCall (sp_law_number K) [] E0 (tCons (tVar 0) tNil)) (tCons (tCall (sp_law_number K) [] E0 (tCons (tVar 0) tNil)) tNil))) tNil)) (gUnl K 2 (gCons (gName 5) (gCons (gName 6) gNil))))
 (b_law_sort_0 K n)))
@[irreducible] def b_law_left_2 (K : PySem.W.Frag) : TS :=
 (tRet (tTup (tCons (tDGet1 (tDisp (((tC (.str (PySem.Str.ofString "truth"))), (tOp (rEqU K) (tOp rModU (tVar 7) (tC (.int 2))) (tC (.int 0)))) :: (((tC (.str (PySem.Str.ofString "text"))), (tIf (tTest (tOp (rEqU K) (tOp (rIxU K) (tVar 1) (tC (.int 0))) (tC (.str (PySem.Str.ofString "text"))))) (tSl rSlSU (tVar 8) tNoPart (tPart (tOp (rIxU K) (tVar 1) (tUn rNegU (tC (.int 1)))))) (tC (.str (PySem.Str.ofString ""))))) :: (((tC (.str (PySem.Str.ofString "row"))), (tTup tNil)) :: [])))) (tOp (rIxU K) (tVar 1) (tC (.int 0)))) tNil)))
@[irreducible] def b_law_left_1 (K : PySem.W.Frag) : TS :=
 (tSeq (tAsg (tOp (rMulX K) (tC (.str (PySem.Str.ofString " !\"'()-=[]\\az09~"))) (tC (.int 3))) (gName 6))
 (tSeq (tAsg (tCall (sp_law_draw K) [] E0 (tCons (tVar 0) (tCons (tC (.int 17)) tNil))) (gName 7))
 (tSeq (tAsg (tSl rSlSU (tVar 6) (tPart (tVar 7)) (tPart (tOp (rAddU K) (tVar 7) (tCall (sp_law_draw K) [] E0 (tCons (tVar 0) (tCons (tC (.int 40)) tNil)))))) (gName 8))
 (b_law_left_2 K))))
@[irreducible] def b_law_left_0 (K : PySem.W.Frag) : TS :=
 (tSeq (tIfS (tTest (tOp (rEqU K) (tOp (rIxU K) (tVar 1) (tC (.int 0))) (tC (.str (PySem.Str.ofString "number")))))
 (tSeq (tAsg (tOp (rAddU K) (tLc (iTup K (tSl (rSlA K) (tVar 1) (tPart (tC (.int 1))) tNoPart)) (gName 9) (tTest (tOp rNotNU (tVar 9) (tC .non))) (tVar 9) [9]) (tLst (tCons (tC (.int 0)) tNil))) (gName 2))
 (tSeq (tAsg (tOp (rIxU K) (tVar 2) (tCall (sp_law_draw K) [] E0 (tCons (tVar 0) (tCons (tCB (rLenU K) (tCons (tVar 2) tNil)) tNil)))) (gName 3))
 (tSeq (tAsg (tSl (rSlA K) (tVar 1) (tPart (tC (.int 1))) tNoPart) (gTup K 2 (gCons (gName 4) (gCons (gName 5) gNil))))
 (tRet (tOp (rMulX K) (tTup (tCons (tVar 3) tNil)) (tCB rIntU (tCons (tAndV (tOrV (tOp rIsNU (tVar 4) (tC .non)) (tOp rLeU (tVar 4) (tVar 3))) (tOrV (tOp rIsNU (tVar 5) (tC .non)) (tOp rLeU (tVar 3) (tVar 5)))) tNil)))))))
 tNext)
 (b_law_left_1 K))
def t_law_left (K : PySem.W.Frag) : TS :=
 (tSeq (tIfS (tOr (tTest (tOp (rEqU K) (tCall (sp_law_draw K) [] E0 (tCons (tVar 0) (tCons (tC (.int 2)) tNil))) (tC (.int 0)))) (tTest (tOp (rInU K) (tOp (rIxU K) (tVar 1) (tC (.int 0))) (tLst (tCons (tC (.str (PySem.Str.ofString "node"))) (tCons (tC (.str (PySem.Str.ofString "choice"))) tNil))))))
 (tRet (tTup tNil))
 tNext)
 (b_law_left_0 K))
@[irreducible] def b_law_fields_1 (K : PySem.W.Frag) : TS :=
 (tIfS (tTest (tOp (rNotInU K) (tVar 6) (tVar 4)))
 (tSeq (tDrop (tBM K "list" rAppU (tVar 3) (tCons (tOp (rAddU K) (tTup (tCons (tVar 6) (tCons (tVar 5) (tCons (tVar 7) tNil)))) (tCall (sp_law_left K) [] E0 (tCons (tVar 0) (tCons (tVar 7) tNil)))) tNil)))
 (tDrop (tBM K "list" rAppU (tVar 4) (tCons (tVar 6) tNil))))
 tNext)
@[irreducible] def b_law_fields_0 (K : PySem.W.Frag) : TS :=
 (tSeq (tAsg (tOp (rIxU K) (tLst (tCons (tOp (rAddU K) (tC (.int 1)) (tCall (sp_law_draw K) [] E0 (tCons (tVar 0) (tCons (tC (.int 99)) tNil)))) (tCons (tOp (rAddU K) (tC (.int 1)) (tCall (sp_law_draw K) [] E0 (tCons (tVar 0) (tCons (tC (.int 9)) tNil)))) (tCons (tC (.int 99)) tNil)))) (tCall (sp_law_draw K) [] E0 (tCons (tVar 0) (tCons (tC (.int 3)) tNil)))) (gName 6))
 (tSeq (tAsg (tCall (sp_law_sort K 3) [] E0 (tCons (tVar 0) (tCons (tVar 1) (tCons (tVar 2) (tCons (tC (.int 2)) tNil))))) (gName 7))
 (b_law_fields_1 K)))
def t_law_fields (K : PySem.W.Frag) : TS :=
 (tSeq (tAsg (tLst tNil) (gName 3))
 (tSeq (tAsg (tLst tNil) (gName 4))
 (tSeq (tFor (iList K (tCall (sp_law_names K) [] E0 (tCons (tVar 0) (tCons (tCall (sp_law_draw K) [] E0 (tCons (tVar 0) (tCons (tC (.int 5)) tNil))) tNil)))) (gName 5)
 (b_law_fields_0 K))
 (tRet (tVar 3)))))
@[irreducible] def b_law_cases_1 (K : PySem.W.Frag) : TS :=
 (tIfS (tTest (tOp (rNotInU K) (tVar 7) (tVar 5)))
 (tSeq (tDrop (tBM K "list" rAppU (tVar 4) (tCons (tTup (tCons (tVar 7) (tCons (tVar 6) (tCons (tOp (rIxU K) (tLst (tCons (tVar 8) (tCons (tC .non) tNil))) (tCB rIntU (tCons (tOp (rEqU K) (tVar 7) (tC (.int 0))) tNil))) tNil)))) tNil)))
 (tDrop (tBM K "list" rAppU (tVar 5) (tCons (tVar 7) tNil))))
 tNext)
@[irreducible] def b_law_cases_0 (K : PySem.W.Frag) : TS :=
 (tSeq (tAsg (tOp (rIxU K) (tLst (tCons (tCall (sp_law_draw K) [] E0 (tCons (tVar 0) (tCons (tC (.int 100)) tNil))) (tCons (tCall (sp_law_draw K) [] E0 (tCons (tVar 0) (tCons (tC (.int 5)) tNil))) tNil))) (tCall (sp_law_draw K) [] E0 (tCons (tVar 0) (tCons (tC (.int 2)) tNil)))) (gName 7))
 (tSeq (tAsg (tOp (rIxU K) (tLst (tCons (tC .non) (tCons (tCall (sp_law_sort K 3) [] E0 (tCons (tVar 0) (tCons (tVar 1) (tCons (tVar 2) (tCons (tC (.int 2)) tNil))))) tNil))) (tCall (sp_law_draw K) [] E0 (tCons (tVar 0) (tCons (tC (.int 2)) tNil)))) (gName 8))
 (b_law_cases_1 K)))
@[irreducible] def b_law_cases_3 (K : PySem.W.Frag) : TS :=
 (tSeq (tIfS (tAnd (tTest (tOp rNotNU (tVar 8) (tC .non))) (tAnd (tTest (tOp (rEqU K) (tOp (rIxU K) (tVar 8) (tC (.int 0))) (tC (.str (PySem.Str.ofString "choice"))))) (tTest (tOp rLeU (tBM K "list" (rIndex K) (tVar 2) (tCons (tOp (rIxU K) (tVar 8) (tC (.int 1))) tNil)) (tVar 3)))))
 (tAsg (tTup (tCons (tVar 7) (tCons (tVar 6) (tCons (tTup (tCons (tC (.str (PySem.Str.ofString "truth"))) tNil)) tNil)))) (gSub (tVar 4) (tVar 9) rSetU))
 tNext)
 (tRet (tVar 4)))
@[irreducible] def b_law_cases_2 (K : PySem.W.Frag) : TS :=
 (tSeq (tAsg (tBM K "list" (rIndex K) (tVar 5) (tCons (tCB (rMin K) (tCons (tVar 5) tNil)) tNil)) (gName 9))
 (tSeq (tAsg (tOp (rIxU K) (tVar 4) (tVar 9)) (gTup K 3 (gCons (gName 7) (gCons (gName 6) (gCons (gName 8) gNil)))))
 (b_law_cases_3 K)))
def t_law_cases (K : PySem.W.Frag) : TS :=
 (tSeq (tAsg (tLst tNil) (gName 4))
 (tSeq (tAsg (tLst tNil) (gName 5))
 (tSeq (tFor (iList K (tCall (sp_law_names K) [] E0 (tCons (tVar 0) (tCons (tOp (rAddU K) (tC (.int 1)) (tCall (sp_law_draw K) [] E0 (tCons (tVar 0) (tCons (tC (.int 5)) tNil)))) tNil)))) (gName 6)
 (b_law_cases_0 K))
 (b_law_cases_2 K))))
@[irreducible] def b_law_parts_2 (K : PySem.W.Frag) : TS :=
 (tRet (tTup (tCons (tVar 3) (tCons (tVar 4) (tCons (tCall (sp_law_sort K 3) [] E0 (tCons (tVar 0) (tCons (tVar 1) (tCons (tVar 2) (tCons (tC (.int 2)) tNil))))) tNil)))))
@[irreducible] def b_law_parts_1 (K : PySem.W.Frag) : TS :=
 (tSeq (tAsg (tCB (rDictU K) (tCons (tLc (iRng1 (tCons (tCB (rLenU K) (tCons (tVar 2) tNil)) tNil)) (gName 6) tYes (tTup (tCons (tOp (rIxU K) (tVar 2) (tVar 6)) (tCons (tCall (sp_law_cases K) [] E0 (tCons (tVar 0) (tCons (tVar 1) (tCons (tVar 2) (tCons (tVar 6) tNil))))) tNil))) [6]) tNil)) (gName 4))
 (b_law_parts_2 K))
@[irreducible] def b_law_parts_0 (K : PySem.W.Frag) : TS :=
 (tSeq (tAsg (tCB (rDictU K) (tCons (tLc (iList K (tVar 1)) (gName 5) tYes (tTup (tCons (tVar 5) (tCons (tCall (sp_law_fields K) [] E0 (tCons (tVar 0) (tCons (tVar 1) (tCons (tVar 2) tNil)))) tNil))) [5]) tNil)) (gName 3))
 (b_law_parts_1 K))
def t_law_parts (K : PySem.W.Frag) : TS :=
 (tSeq (tAsg (tCall (sp_law_names K) [] E0 (tCons (tVar 0) (tCons (tCall (sp_law_draw K) [] E0 (tCons (tVar 0) (tCons (tC (.int 6)) tNil))) tNil))) (gName 1))
 (tSeq (tAsg (tCall (sp_law_names K) [] E0 (tCons (tVar 0) (tCons (tCall (sp_law_draw K) [] E0 (tCons (tVar 0) (tCons (tC (.int 4)) tNil))) tNil))) (gName 2))
 (b_law_parts_0 K)))
def t_law_formed (K : PySem.W.Frag) : TS :=
 (tRet (tCB (rDictU K) (tCons (tLockE (tLc (iItems (tVar 1)) (gTup K 2 (gCons (gName 2) (gCons (gName 3) gNil))) tYes (tTup (tCons (tVar 2) (tCons (tOp (rIxU K) (tLst (tCons (tCB (rListU K) (tCons (tVar 3) tNil)) (tCons (tCB (rTupleU K) (tCons (tVar 3) tNil)) tNil))) (tCall (sp_law_draw K) [] E0 (tCons (tVar 0) (tCons (tC (.int 2)) tNil)))) tNil))) [2, 3])) tNil)))
def t_law_copied (K : PySem.W.Frag) : TS :=
 (tRet (tLc (iList K (tVar 0)) (gName 1) tYes (tLockE (tLc (iItems (tVar 1)) (gTup K 2 (gCons (gName 2) (gCons (gName 3) gNil))) tYes (tTup (tCons (tVar 2) (tCons (tCB (rIsiU K) (tCons (tVar 3) (tCons (tC (.ty "list")) tNil))) (tCons (tCB (rListU K) (tCons (tVar 3) tNil)) tNil)))) [2, 3])) [1]))
def t_law_sorted (K : PySem.W.Frag) (Pt : Tb) : TS :=
 (tRet (tCB (rDictU K) (tCons (tLockE (tLc (iItems (tVar 0)) (gTup K 2 (gCons (gName 1) (gCons (gName 2) gNil))) tYes (tTup (tCons (tVar 1) (tCons (tCB (rTupleU K) (tCons (tSortKey K Pt.c (("_law_sorted" : Str) ++ ".<locals>." ++ "<lambda>") (tVar 2)) tNil)) tNil))) [1, 2])) tNil)))
@[irreducible] def b_law_right_0 (K : PySem.W.Frag) (C : Addr) (Pt : Tb) : TS :=
 (tRet (tOp (rEqX K) (tTup (tCons (tUn (rFldU K "kinds") (tVar 0)) (tCons (tUn (rFldU K "choices") (tVar 0)) (tCons (tUn (rFldU K "root") (tVar 0)) tNil)))) (tTup (tCons (tCall (sp_law_sorted K Pt) [] E0 (tCons (tOp (rIxU K) (tVar 1) (tC (.int 0))) tNil)) (tCons (tCall (sp_law_sorted K Pt) [] E0 (tCons (tOp (rIxU K) (tVar 1) (tC (.int 1))) tNil)) (tCons (tOp (rIxU K) (tVar 1) (tC (.int 2))) tNil))))))
def t_law_right (K : PySem.W.Frag) (C : Addr) (Pt : Tb) : TS :=
 (tSeq (tIfS (tOr (tNot (tTru K (tCB (rIsiU K) (tCons (tUn (rFldU K "kinds") (tVar 0)) (tCons (tC (.ty "dict")) tNil))))) (tNot (tTru K (tCB (rIsiU K) (tCons (tUn (rFldU K "choices") (tVar 0)) (tCons (tC (.ty "dict")) tNil))))))
 (tRet (tC (.bl false)))
 tNext)
 (b_law_right_0 K C Pt))
@[irreducible] def b_law_4 (K : PySem.W.Frag) (C : Addr) (Pt : Tb) : TS :=
 (tDrop (tBM K "list" rAppU (tVar 1) (tCons (tTup (tCons (tVar 8) (tCons (tVar 4) tNil))) tNil)))
@[irreducible] def b_law_3 (K : PySem.W.Frag) (C : Addr) (Pt : Tb) : TS :=
 (tSeq (tFor (iList K (tVar 5)) (gName 9)
 (tSeq (tLock (tFor (iVals (tVar 9)) (gName 10)
 (tIfS (tTru K (tCB (rIsiU K) (tCons (tVar 10) (tCons (tC (.ty "list")) tNil))))
 (tDrop (tBM K "list" rAppU (tVar 10) (tCons (tC (.int 0)) tNil)))
 tNext)))
 (tDrop (tBM0 K "dict" rDClr (tVar 9)))))
 (b_law_4 K C Pt))
@[irreducible] def b_law_2 (K : PySem.W.Frag) (C : Addr) (Pt : Tb) : TS :=
 (tSeq (tIfS (tOr (tTest (tOp (rNeX K) (tCall (sp_law_copied K) [] E0 (tCons (tVar 5) tNil)) (tVar 6))) (tNot (tTru K (tCall (sp_law_right K Pt) [] E0 (tCons (tVar 8) (tCons (tVar 4) tNil))))))
 (tRet (tC (.bl false)))
 tNext)
 (b_law_3 K C Pt))
@[irreducible] def b_law_1 (K : PySem.W.Frag) (C : Addr) (Pt : Tb) : TS :=
 (tSeq (tIfS (tAnd (tTest (tOp (rEqX K) (tOp (rIxU K) (tVar 4) (tC (.int 1))) tDNewK)) (tTest (tOp (rEqU K) (tVar 7) (tC (.int 0)))))
 (tAsg (tMakeK (cAt K "Schema") 1 1 (sp_Schema___init__ K Pt) (fun (vs zs : List V) => vs ++ ([("choices", .non)] : List (Str × V)).map (·.2) ++ zs) E0 (tCons (tOp (rIxU K) (tVar 5) (tC (.int 0))) tNil) (tCons (tOp (rIxU K) (tVar 4) (tC (.int 2))) tNil)) (gName 8))
 (tIfS (tAnd (tTest (tOp (rEqX K) (tOp (rIxU K) (tVar 4) (tC (.int 1))) tDNewK)) (tTest (tOp (rEqU K) (tVar 7) (tC (.int 1)))))
 (tAsg (tMakeK (cAt K "Schema") 0 3 (sp_Schema___init__ K Pt) (fun (vs zs : List V) => vs ++ zs.reverse) E0 tNil (tCons (tOp (rIxU K) (tVar 4) (tC (.int 2))) (tCons (tC .non) (tCons (tOp (rIxU K) (tVar 5) (tC (.int 0))) tNil)))) (gName 8))
 (tAsg (tMakeK (cAt K "Schema") 1 2 (sp_Schema___init__ K Pt) (fun (vs zs : List V) => vs ++ zs) E0 (tCons (tOp (rIxU K) (tVar 5) (tC (.int 0))) tNil) (tCons (tOp (rIxU K) (tVar 5) (tC (.int 1))) (tCons (tOp (rIxU K) (tVar 4) (tC (.int 2))) tNil))) (gName 8))))
 (b_law_2 K C Pt))
@[irreducible] def b_law_0 (K : PySem.W.Frag) (C : Addr) (Pt : Tb) : TS :=
 (tSeq (tAsg (tLst (tCons (tCall (sp_law_formed K) [] E0 (tCons (tVar 3) (tCons (tOp (rIxU K) (tVar 4) (tC (.int 0))) tNil))) (tCons (tCall (sp_law_formed K) [] E0 (tCons (tVar 3) (tCons (tOp (rIxU K) (tVar 4) (tC (.int 1))) tNil))) tNil))) (gName 5))
 (tSeq (tAsg (tCall (sp_law_copied K) [] E0 (tCons (tVar 5) tNil)) (gName 6))
 (tSeq (tAsg (tCall (sp_law_draw K) [] E0 (tCons (tVar 3) (tCons (tC (.int 3)) tNil))) (gName 7))
 (b_law_1 K C Pt))))
@[irreducible] def b_law_5 (K : PySem.W.Frag) (C : Addr) (Pt : Tb) : TS :=
 (tRet (tCB (rAllU K) (tCons (tLc (iList K (tRevL K (tVar 1))) (gTup K 2 (gCons (gName 8) (gCons (gName 4) gNil))) tYes (tCall (sp_law_right K Pt) [] E0 (tCons (tVar 8) (tCons (tVar 4) tNil))) [8, 4]) tNil)))
def t_law (K : PySem.W.Frag) (C : Addr) (Pt : Tb) : TS :=
 (tSeq (tAsg (tLst tNil) (gName 1))
 (tSeq (tFor (iList K (tOp (rAddU K) (tSl (rSlLU K) (tVar 0) tNoPart (tPart (tC (.int 5)))) (tLst (tCons (tC (.int 4)) (tCons (tC (.int 11)) tNil))))) (gName 2)
 (tSeq (tAsg (tCall (sp_law_well K) [] E0 (tCons (tVar 2) tNil)) (gName 3))
 (tSeq (tAsg (tCall (sp_law_parts K) [] E0 (tCons (tVar 3) tNil)) (gName 4))
 (b_law_0 K C Pt))))
 (b_law_5 K C Pt)))
end K02

/-! ## the program's schemas: plain looks -/
namespace K02
open PySem PySem.Spec PyProof.Rows L2 Kb
theorem sqT_ty {K : PySem.W.Frag} {H : Hp} {a : Addr} {xs : List V} (h : SqT K H a xs) : TyX K H (.ref a) (.type "tuple") := by
  rcases h with (h | ⟨o, h⟩) | ⟨o, its, n, h, c, _⟩
  · exact .base (.tup h)
  · exact .fTuple h
  · exact .kTuple h c
section
variable {K : PySem.W.Frag} {H : Hp} {Q : VK} {E : XK} {i l h : Int} {p w : V} {M : List Addr} {H' : Hp} {a : Addr} {xs : List V}
theorem whole_go (q : Q (.bl true) H) : sp_is_whole K [.int i] H Q E := by unfold sp_is_whole; exact ⟨i, rfl, q⟩
theorem within_go {lo hi : Option Int} (q : Q (.bl ((lo.all fun l => decide (l ≤ i)) && hi.all fun h => decide (i ≤ h))) H) : sp_is_within K [.int i, oV lo, oV hi] H Q E := by unfold sp_is_within; exact ⟨i, lo, hi, rfl, q⟩
theorem within_ss (q : Q (.bl (decide (l ≤ i) && decide (i ≤ h))) H) : sp_is_within K [.int i, .int l, .int h] H Q E := within_go (lo := some l) (hi := some h) q
theorem refuse_go (q : Q .non H) : sp_refuse_if K [.bl false, p, w] H Q E := by unfold sp_refuse_if; exact ⟨p, w, rfl, q⟩
theorem row_go (hx : Sq K H a xs) (q : ∀ H', Kp [] H H' → Q (.bl true) H') : sp_is_row K [.ref a] H Q E := by unfold sp_is_row; exact ⟨a, xs, rfl, hx, q⟩
theorem name_go {z : Str} (hz : NameOk z) (q : ∀ H', Kp [] H H' → Q (.bl true) H') : sp_is_name K [.str z] H Q E := by unfold sp_is_name; exact ⟨z, rfl, hz, q⟩
theorem known_go {kvs : List (L2.Key × V)} {k : Str} (hr : Rd H a (.dK kvs)) (hk : keyIn kvs k) (q : Q (.bl true) H) : sp_is_known K [.ref a, .str k] H Q E := by unfold sp_is_known; exact ⟨a, kvs, k, rfl, hr, hk, q⟩
theorem bounds_go {lo hi : Option Int} (hb : ∀ l h, lo = some l → hi = some h → l ≤ h) (q : ∀ H', Kp [] H H' → Q (.bl true) H') : sp_is_bounds K [oV lo, oV hi] H Q E := by unfold sp_is_bounds; exact ⟨lo, hi, rfl, hb, q⟩
theorem Sq.kp (h : Sq K H a xs) (k : Kp M H H') (n : a ∉ M) : Sq K H' a xs := by
  rcases h with h | h
  · exact .inl (k.at_ n h)
  · exact .inr (k.sqT n h)
theorem Rd.kp {u : HO} (r : Rd H a u) (k : Kp [] H H') : Rd H' a u := by
  rcases r with r | ⟨o, r⟩
  · exact .inl (k.at_ List.not_mem_nil r)
  · exact .inr ⟨o, k.at_ List.not_mem_nil r⟩
end
section
variable {K : PySem.W.Frag} {H : Hp} {Q : VK} {a : Addr} {x y z : V} {r : List V}
theorem at0 {α : Type} (x : α) (r : List α) : atI (x :: r) 0 = some x := by
  have := atI_nat (xs := x :: r) (j := 0) (v := x) rfl
  exact this
theorem at1 {α : Type} (x y : α) (r : List α) : atI (x :: y :: r) 1 = some y := by
  have := atI_nat (xs := x :: y :: r) (j := 1) (v := y) rfl
  exact this
theorem at2 {α : Type} (x y z : α) (r : List α) : atI (x :: y :: z :: r) 2 = some z := by
  have := atI_nat (xs := x :: y :: z :: r) (j := 2) (v := z) rfl
  exact this
theorem ixT0_go (h : SqT K H a (x :: r)) (q : Q x H) : rIxU K (.ref a) (.int 0) H Q := ixT_go h (at0 x r) q
theorem ixT1_go (h : SqT K H a (x :: y :: r)) (q : Q y H) : rIxU K (.ref a) (.int 1) H Q := ixT_go h (at1 x y r) q
theorem ixT2_go (h : SqT K H a (x :: y :: z :: r)) (q : Q z H) : rIxU K (.ref a) (.int 2) H Q := ixT_go h (at2 x y z r) q
end
theorem len_is_whole (K : PySem.W.Frag) : ∀ vs H Q E, sp_is_whole K vs H Q E → vs.length = ["thing"].length := by
  intro _ _ _ _ h
  unfold sp_is_whole at h
  obtain ⟨_, rfl, _⟩ := h
  rfl
theorem p_is_whole (K : PySem.W.Frag) (vs : List V) (H : Hp) (Q : VK) (E : XK) (h : sp_is_whole K vs H Q E) : t_is_whole K { nx := fun _ H' => Q .non H', rt := Q } (start ["thing"] vs) H := by
  unfold sp_is_whole at h
  obtain ⟨i, rfl, q⟩ := h
  walk_at "go"
  exact q
theorem len_is_within (K : PySem.W.Frag) : ∀ vs H Q E, sp_is_within K vs H Q E → vs.length = ["thing", "low", "high"].length := by
  intro _ _ _ _ h
  unfold sp_is_within at h
  obtain ⟨_, _, _, rfl, _⟩ := h
  rfl
theorem p_is_within (K : PySem.W.Frag) (vs : List V) (H : Hp) (Q : VK) (E : XK) (h : sp_is_within K vs H Q E) : t_is_within K { nx := fun _ H' => Q .non H', rt := Q } (start ["thing", "low", "high"] vs) H := by
  unfold sp_is_within at h
  obtain ⟨i, lo, hi, rfl, q⟩ := h
  cases lo with
  | none =>
    cases hi with
    | none =>
      dsimp only [oV]
      walk_at "go"
      refine whole_go ?_
      walk_at "go"
      · exact q
      · exact absurd rfl (by assumption)
    | some h =>
      dsimp only [oV]
      walk_at "go"
      refine whole_go ?_
      walk_at "go"
      exact q
  | some l =>
    cases hi with
    | none =>
      dsimp only [oV]
      walk_at "go"
      refine whole_go ?_
      walk_at "go"
      · rename_i c
        have e : decide (l ≤ i) = false := decide_eq_false (by omega)
        have q' := q
        simp [e] at q'
        exact q'
      · rename_i c
        have e : decide (l ≤ i) = true := decide_eq_true (by omega)
        have q' := q
        simp [e] at q'
        exact q'
      · exact absurd rfl (by assumption)
    | some h =>
      dsimp only [oV]
      walk_at "go"
      refine whole_go ?_
      walk_at "go"
      · rename_i c
        have e : decide (l ≤ i) = false := decide_eq_false (by omega)
        have q' := q
        simp [e] at q'
        exact q'
      · rename_i c
        have e : decide (l ≤ i) = true := decide_eq_true (by omega)
        have q' := q
        simp [e] at q'
        exact q'
theorem letter {c : Nat} (h : 97 ≤ c ∧ c ≤ 122) : c ∈ (PySem.Str.ofString "abcdefghijklmnopqrstuvwxyz").cps.toList := by
  have e : (PySem.Str.ofString "abcdefghijklmnopqrstuvwxyz").cps.toList = List.range' 97 26 := by decide +kernel
  rw [e, List.mem_range'_1]
  omega
theorem cut_from3 (xs : List V) (l : 3 ≤ xs.length) : cutV xs (some 3) none = xs.drop 3 := by
  unfold cutV
  rw [show (some 3 : Option Int) = some ((3 : Nat) : Int) from rfl, HT.sIx_nat, show HT.sIx xs.length xs.length none = xs.length from rfl, Nat.min_eq_left l]
  exact List.take_of_length_le (by rw [List.length_drop]; omega)
theorem len_is_row (K : PySem.W.Frag) : ∀ vs H Q E, sp_is_row K vs H Q E → vs.length = ["thing"].length := by
  intro _ _ _ _ h
  unfold sp_is_row at h
  obtain ⟨_, _, rfl, _⟩ := h
  rfl
theorem p_is_row (K : PySem.W.Frag) (vs : List V) (H : Hp) (Q : VK) (E : XK) (h : sp_is_row K vs H Q E) : t_is_row K { nx := fun _ H' => Q .non H', rt := Q } (start ["thing"] vs) H := by
  unfold sp_is_row at h
  obtain ⟨a, xs, rfl, h | h, q⟩ := h
  · walk_at "go"
    exact q _ (Kp.refl.upd_new' (by assumption))
  · walk_at "go"
    rename_i p np
    have ty := sqT_ty ((Kp.refl.upd_new' (o := .tup [.ty "list", .ty "tuple"]) np).sqT List.not_mem_nil h)
    refine isi2_go upd_same ty ki_tuple_list ki_tuple_tuple ?_
    exact q _ (Kp.refl.upd_new' np)
theorem len_left_of (K : PySem.W.Frag) : ∀ vs H Q E, sp_left_of K vs H Q E → vs.length = ["field"].length := by
  intro _ _ _ _ h
  unfold sp_left_of at h
  obtain ⟨_, _, rfl, _⟩ := h
  rfl
theorem p_left_of (K : PySem.W.Frag) (vs : List V) (H : Hp) (Q : VK) (E : XK) (h : sp_left_of K vs H Q E) : t_left_of K { nx := fun _ H' => Q .non H', rt := Q } (start ["field"] vs) H := by
  unfold sp_left_of at h
  obtain ⟨a, xs, rfl, hx, l, q⟩ := h
  walk_at "go"
  refine ⟨a, xs, rfl, hx, fun e => ?_, fun _ p np => ?_⟩
  · exfalso
    have e1 := e.1
    rw [show (some 3 : Option Int) = some ((3 : Nat) : Int) from rfl, HT.sIx_nat] at e1
    omega
  · have e := cut_from3 xs l
    refine q _ p (Kp.refl.upd_new' np) (SqT.of ?_)
    rw [upd_same]
    exact congrArg (fun y => some (HO.tup y)) e
theorem len_is_name (K : PySem.W.Frag) : ∀ vs H Q E, sp_is_name K vs H Q E → vs.length = ["thing"].length := by
  intro _ _ _ _ h
  unfold sp_is_name at h
  obtain ⟨_, rfl, _⟩ := h
  rfl
theorem p_is_name (K : PySem.W.Frag) (vs : List V) (H : Hp) (Q : VK) (E : XK) (h : sp_is_name K vs H Q E) : t_is_name K { nx := fun _ H' => Q .non H', rt := Q } (start ["thing", "sign"] vs) H := by
  unfold sp_is_name at h
  obtain ⟨z, rfl, hz, q⟩ := h
  obtain ⟨z1, z2, z3⟩ := hz
  have n1 : (1 : Int) ≤ (z.length : Int) := by omega
  have n2 : (z.length : Int) ≤ 8 := by omega
  walk_at "go"
  · rename_i c
    exact absurd n2 c
  · rename_i D nD
    refine lc_acc walk_str (fun i acc H' => acc = List.replicate i (V.bl true) ∧ Kp [] H H') ⟨rfl, Kp.refl.upd_new' nD⟩ (fun _ _ _ _ _ => trivial) (fun i x acc Hc Hb hi hl hD hP hY => ?_) (fun acc Hc hl hD hP => ?_)
    · obtain ⟨rfl, kc⟩ := hP
      obtain ⟨rfl, c, hc, rfl⟩ := hY
      refine ⟨rfl, ?_⟩
      walk_at "go"
      have hm : c ∈ z.cps.toList := by
        rw [← Array.getElem?_toList] at hc
        exact List.mem_of_getElem? hc
      have hin := letter (z3 c hm)
      rw [decide_eq_true hin]
      refine acc_go hl (by have : i < z.length := hi; omega) hD ⟨by rw [List.replicate_succ'], kc.upd_new nD⟩
    · obtain ⟨rfl, kc⟩ := hP
      walk_at "go"
      refine all_go (bs := List.replicate z.cps.size true) (SqL.of (by rw [List.map_replicate]; exact hD)) ?_
      rw [show (List.replicate z.cps.size true).all id = true from by simp]
      exact q _ kc
  · rename_i c
    exact absurd n1 c
theorem len_is_bounds (K : PySem.W.Frag) : ∀ vs H Q E, sp_is_bounds K vs H Q E → vs.length = ["low", "high"].length := by
  intro _ _ _ _ h
  unfold sp_is_bounds at h
  obtain ⟨_, _, rfl, _⟩ := h
  rfl
theorem p_is_bounds (K : PySem.W.Frag) (vs : List V) (H : Hp) (Q : VK) (E : XK) (h : sp_is_bounds K vs H Q E) : t_is_bounds K { nx := fun _ H' => Q .non H', rt := Q } (start ["low", "high", "one"] vs) H := by
  unfold sp_is_bounds at h
  obtain ⟨lo, hi, rfl, hb, q⟩ := h
  walk_at "go"
  rename_i p np
  have ne : ∀ (o : Option Int), (∃ i, oV o = .int i ∧ o = some i) ∨ (oV o = .non ∧ o = none) := fun o => by cases o <;> simp [oV]
  refine ⟨⟨_, SqT.of upd_same⟩, fun D nD => ?_⟩
  have pD : p ≠ D := ne_of_none upd_same nD
  have k1 : Kp [] H (upd H p (.tup [oV lo, oV hi])) := Kp.refl.upd_new' np
  have nDH := k1.none_of List.not_mem_nil nD
  refine lc_acc (walk_tup (xs := [oV lo, oV hi])) (fun i acc H' => acc = List.replicate i (V.bl true) ∧ Kp [] H H' ∧ H' p = some (.tup [oV lo, oV hi])) ⟨rfl, k1.upd_new' nD, (upd_ne pD).trans upd_same⟩ (fun _ _ _ _ h => SqT.of h.2.2) (fun i x acc Hc Hb hi' hl hD hP hY => ?_) (fun acc Hc hl hD hP => ?_)
  · obtain ⟨rfl, kc, hp⟩ := hP
    obtain ⟨rfl, e⟩ := hY
    have hx : ∃ o, x = oV o := by
      have := List.mem_of_getElem? e
      simp only [List.mem_cons, List.not_mem_nil, or_false] at this
      rcases this with rfl | rfl <;> exact ⟨_, rfl⟩
    obtain ⟨o, rfl⟩ := hx
    refine ⟨rfl, ?_⟩
    have fin : (∃ acc, Hb D = some (.lst acc) ∧ acc.length < sizeLine ∧ Acc D (fun i acc H' => acc = List.replicate i (V.bl true) ∧ Kp [] H H' ∧ H' p = some (.tup [oV lo, oV hi])) (i + 1) (upd Hb D (.lst (acc ++ [.bl true])))) :=
      acc_go hl (by have : i < 2 := hi'; omega) hD ⟨by rw [List.replicate_succ'], kc.upd_new nDH, (upd_ne pD).trans hp⟩
    rcases ne o with ⟨j, e1, _⟩ | ⟨e1, _⟩
    · rw [e1]
      walk_at "go"
      refine whole_go ?_
      exact fin
    · rw [e1]
      walk_at "go"
      · exact fin
      · exact absurd rfl (by assumption)
  · obtain ⟨rfl, kc, hp⟩ := hP
    walk_at "go"
    refine all_go (bs := List.replicate 2 true) (SqL.of hD) ?_
    walk_at "go"
    all_goals try exact q _ kc
    rcases ne lo with ⟨l, e1, e2⟩ | ⟨e1, _⟩
    · rcases ne hi with ⟨h, e3, e4⟩ | ⟨e3, _⟩
      · rw [e1, e3]
        refine le_go ?_
        rw [decide_eq_true (hb l h e2 e4)]
        exact q _ kc
      · exact absurd e3 (by assumption)
    · exact absurd e1 (by assumption)
theorem len_is_known (K : PySem.W.Frag) : ∀ vs H Q E, sp_is_known K vs H Q E → vs.length = ["names", "thing"].length := by
  intro _ _ _ _ h
  unfold sp_is_known at h
  obtain ⟨_, _, _, rfl, _⟩ := h
  rfl
theorem p_is_known (K : PySem.W.Frag) (vs : List V) (H : Hp) (Q : VK) (E : XK) (h : sp_is_known K vs H Q E) : t_is_known K { nx := fun _ H' => Q .non H', rt := Q } (start ["names", "thing"] vs) H := by
  unfold sp_is_known at h
  obtain ⟨a, kvs, k, rfl, hr, ⟨v, hv⟩, q⟩ := h
  walk_at "go"
  refine ⟨a, some v, rfl, .inl ⟨kvs, .inr k, hr, rfl, hv.symm⟩, ?_⟩
  exact q
end K02

/-! steps of k02 -/
local macro_rules | `(tactic| walk_at "tk") => `(tactic| first
  | (refine' K02.whole_go ?kq)
  | (refine' K02.within_ss ?kq)
  | (refine' K02.refuse_go ?kq)
  | (refine' K02.ixT0_go ?k1 ?kq; (case k1 => assumption))
  | (refine' K02.ixT1_go ?k1 ?kq; (case k1 => assumption))
  | (refine' K02.ixT2_go ?k1 ?kq; (case k1 => assumption))
  | fail)
local macro_rules | `(tactic| walk_at "go") => `(tactic| repeat' first | walk_at "tk" | walk_at "s")

/-! ## the program's schemas: sorts and parts looked at -/
namespace K02
open PySem PySem.Spec PyProof.Rows L2 Kb
section
variable {K : PySem.W.Frag} {H H' : Hp} {x : V} {M : List Addr}
theorem srt_head : ∀ {s : Srt}, SrtV K H s x → ∃ a w r, x = .ref a ∧ SqT K H a (.str w :: r)
  | .num _ _, ⟨a, h, g⟩ => ⟨a, _, _, h, g⟩
  | .truth, ⟨a, h, g⟩ => ⟨a, _, _, h, g⟩
  | .text _, ⟨a, h, g⟩ => ⟨a, _, _, h, g⟩
  | .row _ _, ⟨a, _, h, g, _⟩ => ⟨a, _, _, h, g⟩
  | .maybe _, ⟨a, _, h, g, _⟩ => ⟨a, _, _, h, g⟩
  | .node _, ⟨a, h, g⟩ => ⟨a, _, _, h, g⟩
  | .pick _, ⟨a, h, g⟩ => ⟨a, _, _, h, g⟩
theorem srt_word : ∀ {s : Srt}, SrtV K H s x → (∀ s', s ≠ .maybe s') → ∃ a w r, x = .ref a ∧ SqT K H a (.str w :: r) ∧ w ≠ "maybe"
  | .num _ _, ⟨a, h, g⟩, _ => ⟨a, _, _, h, g, by decide +kernel⟩
  | .truth, ⟨a, h, g⟩, _ => ⟨a, _, _, h, g, by decide +kernel⟩
  | .text _, ⟨a, h, g⟩, _ => ⟨a, _, _, h, g, by decide +kernel⟩
  | .row _ _, ⟨a, _, h, g, _⟩, _ => ⟨a, _, _, h, g, by decide +kernel⟩
  | .maybe s, _, n => absurd rfl (n s)
  | .node _, ⟨a, h, g⟩, _ => ⟨a, _, _, h, g, by decide +kernel⟩
  | .pick _, ⟨a, h, g⟩, _ => ⟨a, _, _, h, g, by decide +kernel⟩
theorem SrtV.kp0 (k : Kp [] H H') : ∀ {s : Srt} {x : V}, SrtV K H s x → SrtV K H' s x
  | .num _ _, _, ⟨a, h, g⟩ => ⟨a, h, k.sqT List.not_mem_nil g⟩
  | .truth, _, ⟨a, h, g⟩ => ⟨a, h, k.sqT List.not_mem_nil g⟩
  | .text _, _, ⟨a, h, g⟩ => ⟨a, h, k.sqT List.not_mem_nil g⟩
  | .row _ _, _, ⟨a, y, h, g, r⟩ => ⟨a, y, h, k.sqT List.not_mem_nil g, r.kp0 k⟩
  | .maybe _, _, ⟨a, y, h, g, r⟩ => ⟨a, y, h, k.sqT List.not_mem_nil g, r.kp0 k⟩
  | .node _, _, ⟨a, h, g⟩ => ⟨a, h, k.sqT List.not_mem_nil g⟩
  | .pick _, _, ⟨a, h, g⟩ => ⟨a, h, k.sqT List.not_mem_nil g⟩
end
theorem no_is_sort (K : PySem.W.Frag) {vs : List V} {H : Hp} {Q : VK} {E : XK} (h : sp_is_sort K 0 vs H Q E) : False := by
  unfold sp_is_sort at h
  exact h
theorem sort_go {K : PySem.W.Frag} {n : Nat} {ka ca : Addr} {x : V} {deep : Int} {kk ck : List (L2.Key × V)} {s : Srt} {H : Hp} {Q : VK} {E : XK} (hk : Rd H ka (.dK kk)) (hc : Rd H ca (.dK ck)) (hs : SrtV K H s x) (ok : s.ok (keyIn kk) (keyIn ck) n) (d0 : 0 ≤ deep) (d3 : deep + n ≤ 3)
    (q : ∀ H', Kp [] H H' → Q (.bl true) H') : sp_is_sort K (n + 1) [.ref ka, .ref ca, x, .int deep] H Q E := by
  unfold sp_is_sort
  exact ⟨ka, ca, x, deep, kk, ck, s, rfl, hk, hc, hs, ok, d0, d3, q⟩
theorem len_is_sort (K : PySem.W.Frag) (n : Nat) : ∀ vs H Q E, sp_is_sort K (n + 1) vs H Q E → vs.length = ["kinds", "choices", "thing", "deep"].length := by
  intro _ _ _ _ h
  unfold sp_is_sort at h
  obtain ⟨_, _, _, _, _, _, _, rfl, _⟩ := h
  rfl
theorem sort_front {K : PySem.W.Frag} {n : Nat} {H : Hp} {D : Ends} {ka ca a : Addr} {deep : Int} {w : Str} {r : List V} (hx : SqT K H a (.str w :: r)) (d3 : deep ≤ 3)
    (q : ∀ H2 p2, Kp [] H H2 → H2 p2 = some (.lst r) → b_is_sort_0 K n D [some (.ref ka), some (.ref ca), some (.ref a), some (.int deep), some (.str w), some (.ref p2)] H2) :
    t_is_sort K n D (start ["kinds", "choices", "thing", "deep", "word", "rest"] [.ref ka, .ref ca, .ref a, .int deep]) H := by
  have ty := sqT_ty hx
  walk_at "go"
  · exfalso; omega
  · rename_i p np
    have k1 : Kp [] H (upd H p (.tup [])) := Kp.refl.upd_new' np
    have hx1 := k1.sqT List.not_mem_nil hx
    refine eqET_go hx1 (SqT.of upd_same) ?_
    generalize upd H p (.tup []) = H1 at k1 hx1 ⊢
    walk_at "go"
    refine ⟨a, _, rfl, hx1, by simp, fun p2 np2 => ?_⟩
    walk_at "go"
    exact q _ _ (k1.upd_new' np2) upd_same
theorem p_is_sort (K : PySem.W.Frag) (n : Nat) (vs : List V) (H : Hp) (Q : VK) (E : XK) (h : sp_is_sort K (n + 1) vs H Q E) : t_is_sort K n { nx := fun _ H' => Q .non H', rt := Q } (start ["kinds", "choices", "thing", "deep", "word", "rest"] vs) H := by
  unfold sp_is_sort at h
  obtain ⟨ka, ca, x, deep, kk, ck, s, rfl, hk, hc, hs, ok, d0, d3, q⟩ := h
  have d3' : deep ≤ 3 := by omega
  cases s with
  | num lo hi =>
    obtain ⟨a, rfl, hx⟩ := hs
    refine sort_front hx d3' fun H2 p2 k2 hp => ?_
    unfold b_is_sort_0
    walk_at "go"
    show sp_is_bounds K [oV lo, oV hi] _ _ _
    exact bounds_go (by unfold Srt.ok at ok; exact ok) fun H' k' => q _ (k2.trans k')
  | truth =>
    obtain ⟨a, rfl, hx⟩ := hs
    refine sort_front hx d3' fun H2 p2 k2 hp => ?_
    unfold b_is_sort_0
    walk_at "go"
    refine eqEL_go (SqL.of ((upd_ne (ne_of_none hp (by assumption))).trans hp)) (SqL.of upd_same) ?_
    exact q _ (k2.upd_new' (by assumption))
  | text m =>
    obtain ⟨a, rfl, hx⟩ := hs
    have ok' : 0 ≤ m ∧ m ≤ 40 := by unfold Srt.ok at ok; exact ok
    refine sort_front hx d3' fun H2 p2 k2 hp => ?_
    unfold b_is_sort_0
    walk_at "go"
    rw [decide_eq_true ok'.1, decide_eq_true ok'.2]
    exact q _ k2
  | row m s =>
    cases n with
    | zero =>
      unfold Srt.ok at ok
      exact ok.elim
    | succ n =>
      obtain ⟨a, y, rfl, hx, hs⟩ := hs
      have ok' : 0 ≤ m ∧ m ≤ 20 ∧ s.ok (keyIn kk) (keyIn ck) n := by unfold Srt.ok at ok; exact ok
      refine sort_front hx d3' fun H2 p2 k2 hp => ?_
      unfold b_is_sort_0
      walk_at "go"
      · show sp_is_sort K (n + 1) [.ref ka, .ref ca, y, .int (deep + 1)] H2 _ _
        exact sort_go (Rd.kp hk k2) (Rd.kp hc k2) (hs.kp0 k2) ok'.2.2 (by omega) (by omega) fun H' k' => q _ (k2.trans k')
      · rename_i c
        rw [decide_eq_true ok'.1, decide_eq_true ok'.2.1] at c
        cases c
  | maybe s =>
    cases n with
    | zero =>
      unfold Srt.ok at ok
      exact ok.elim
    | succ n =>
      obtain ⟨a, y, rfl, hx, hs⟩ := hs
      have ok' : s.ok (keyIn kk) (keyIn ck) n ∧ ∀ s', s ≠ .maybe s' := by unfold Srt.ok at ok; exact ok
      refine sort_front hx d3' fun H2 p2 k2 hp => ?_
      unfold b_is_sort_0
      walk_at "go"
      show sp_is_sort K (n + 1) [.ref ka, .ref ca, y, .int (deep + 1)] H2 _ _
      refine sort_go (Rd.kp hk k2) (Rd.kp hc k2) (hs.kp0 k2) ok'.1 (by omega) (by omega) fun H' k' => ?_
      have hp' := k'.at_ List.not_mem_nil hp
      obtain ⟨b, w, r, rfl, hb, hw⟩ := srt_word ((hs.kp0 k2).kp0 k') ok'.2
      walk_at "go"
      rw [decide_eq_false hw]
      exact q _ (k2.trans k')
  | node m =>
    obtain ⟨a, rfl, hx⟩ := hs
    have ok' : keyIn kk m := by unfold Srt.ok at ok; exact ok
    refine sort_front hx d3' fun H2 p2 k2 hp => ?_
    unfold b_is_sort_0
    walk_at "go"
    show sp_is_known K [.ref ka, .str m] H2 _ _
    refine known_go (Rd.kp hk k2) ok' ?_
    walk_at "go"
    exact q _ k2
  | pick m =>
    obtain ⟨a, rfl, hx⟩ := hs
    have ok' : keyIn ck m := by unfold Srt.ok at ok; exact ok
    refine sort_front hx d3' fun H2 p2 k2 hp => ?_
    unfold b_is_sort_0
    walk_at "go"
    show sp_is_known K [.ref ca, .str m] H2 _ _
    exact known_go (Rd.kp hc k2) ok' (q _ k2)
theorem len_is_default (K : PySem.W.Frag) : ∀ vs H Q E, sp_is_default K vs H Q E → vs.length = ["of", "thing"].length := by
  intro _ _ _ _ h
  unfold sp_is_default at h
  obtain ⟨_, _, _, rfl, _⟩ := h
  rfl
theorem p_is_default (K : PySem.W.Frag) (vs : List V) (H : Hp) (Q : VK) (E : XK) (h : sp_is_default K vs H Q E) : t_is_default K { nx := fun _ H' => Q .non H', rt := Q } (start ["of", "thing"] vs) H := by
  unfold sp_is_default at h
  obtain ⟨s, x, v, rfl, hs, hv, q⟩ := h
  cases s with
  | num lo hi =>
    obtain ⟨a, rfl, hx⟩ := hs
    obtain ⟨i, rfl, h1, h2, h3, h4⟩ := hv
    walk_at "go"
    show sp_is_within K [.int i, oV lo, oV hi] H _ _
    refine within_go ?_
    have e : ((lo.all fun l => decide (l ≤ i)) && hi.all fun h => decide (i ≤ h)) = true := by
      rw [Bool.and_eq_true]
      constructor
      · cases lo with
        | none => rfl
        | some l => exact decide_eq_true (h1 l rfl)
      · cases hi with
        | none => rfl
        | some l => exact decide_eq_true (h2 l rfl)
    rw [e]
    walk_at "go"
    have e2 : decide ((if i < 0 then -i else i) ≤ 999999999999999999999999999999999999999999999999999999999999) = true := decide_eq_true (by
      unfold GREAT at h3 h4
      split <;> omega)
    have q' := q _ Kp.refl
    rw [← e2] at q'
    exact q'
  | truth =>
    obtain ⟨a, rfl, hx⟩ := hs
    obtain ⟨b, rfl⟩ := hv
    walk_at "go"
    exact q _ Kp.refl
  | text m =>
    obtain ⟨a, rfl, hx⟩ := hs
    obtain ⟨z, rfl, h1, h2⟩ := hv
    walk_at "go"
    rw [decide_eq_true h1]
    exact q _ Kp.refl
  | row m s =>
    obtain ⟨a, y, rfl, hx, hs⟩ := hs
    obtain ⟨b, rfl, hb⟩ := hv
    have ty := sqT_ty hb
    walk_at "go"
    rename_i p np
    have k1 : Kp [] H (upd H p (.tup [])) := Kp.refl.upd_new' np
    exact eqET_go (k1.sqT List.not_mem_nil hb) (SqT.of upd_same) (q _ k1)
  | maybe s =>
    obtain ⟨a, y, rfl, hx, hs⟩ := hs
    obtain rfl : v = .non := hv
    walk_at "go"
    exact q _ Kp.refl
  | node k => exact hv.elim
  | pick k => exact hv.elim
theorem len_refuse_if (K : PySem.W.Frag) : ∀ vs H Q E, sp_refuse_if K vs H Q E → vs.length = ["truth", "path", "why"].length := by
  intro _ _ _ _ h
  unfold sp_refuse_if at h
  obtain ⟨_, _, rfl, _⟩ := h
  rfl
theorem p_refuse_if (K : PySem.W.Frag) (vs : List V) (H : Hp) (Q : VK) (E : XK) (h : sp_refuse_if K vs H Q E) : t_refuse_if K { nx := fun _ H' => Q .non H', rt := Q } (start ["truth", "path", "why"] vs) H := by
  unfold sp_refuse_if at h
  obtain ⟨p, w, rfl, q⟩ := h
  walk_at "go"
  exact q
theorem len_look_at_heading (K : PySem.W.Frag) : ∀ vs H Q E, sp_look_at_heading K vs H Q E → vs.length = ["word", "name", "row"].length := by
  intro _ _ _ _ h
  unfold sp_look_at_heading at h
  obtain ⟨_, _, _, _, rfl, _⟩ := h
  rfl
theorem p_look_at_heading (K : PySem.W.Frag) (vs : List V) (H : Hp) (Q : VK) (E : XK) (h : sp_look_at_heading K vs H Q E) : t_look_at_heading K { nx := fun _ H' => Q .non H', rt := Q } (start ["word", "name", "row"] vs) H := by
  unfold sp_look_at_heading at h
  obtain ⟨w, z, a, xs, rfl, hz, hx, q⟩ := h
  walk_at "go"
  show sp_is_name K [.str z] H _ _
  refine name_go hz fun H1 k1 => ?_
  walk_at "go"
  rename_i p np
  show sp_is_row K [.ref a] _ _ _
  have k2 := k1.upd_new' (o := .tup [.str w, .str z, .int (-1)]) np
  refine row_go (hx.kp k2 List.not_mem_nil) fun H2 k3 => ?_
  walk_at "go"
  exact q _ ((k2.trans k3).upd_new' (by assumption))
theorem inV_strs (z : Str) : ∀ zs : List Str, inV (.str z) (zs.map V.str) = decide (z ∈ zs)
  | [] => rfl
  | y :: zs => by
    have ih := inV_strs z zs
    unfold inV at ih ⊢
    rw [List.map_cons, List.any_cons, ih]
    show ((y == z) || decide (z ∈ zs)) = decide (z ∈ y :: zs)
    by_cases e : y = z
    · rw [e]
      simp
    · have e' : ¬ z = y := fun h => e h.symm
      simp [e, e']
section
variable {K : PySem.W.Frag} {H : Hp} {Q : VK} {a : Addr} {z : Str} {zs : List Str} {k : Int} {ns : List Int}
theorem inS_go (h : SqL K H a (zs.map V.str)) (q : Q (.bl (decide (z ∈ zs))) H) : rInU K (.str z) (.ref a) H Q := by
  refine inL_go h rfl (List.all_eq_true.mpr fun v hv => by obtain ⟨i, _, rfl⟩ := List.mem_map.mp hv; rfl) ?_
  rw [inV_strs]
  exact q
theorem notInIT_go (h : SqT K H a (ns.map V.int)) (q : Q (.bl (!decide (k ∈ ns))) H) : rNotInU K (.int k) (.ref a) H Q := by
  unfold rNotInU
  refine .inr ⟨_, _, rfl, .inr h, rfl, List.all_eq_true.mpr fun v hv => by obtain ⟨i, _, rfl⟩ := List.mem_map.mp hv; rfl, ?_⟩
  rw [inV_ints]
  exact q
theorem seqQ_go {n : Nat} {xs : List V} {σ : L2.St} {R : It → Hp → Prop} (e : σ[n]? = some (some (.ref a))) (h : Sq K H a xs) (q : ∀ J G, Walk J xs.length G (YAt xs) → (∀ H', Sq K H' a xs → Kp [] H H' → G H') → R J H) : iSeq K (tVar n) σ H R := by
  unfold iSeq
  rcases h with h | h
  · exact ⟨_, e, a, rfl, .inl ⟨xs, SqL.of h, q _ _ walk_list fun H' _ k => k.sqL List.not_mem_nil (SqL.of h)⟩⟩
  · exact ⟨_, e, a, rfl, .inr ⟨xs, h, q _ _ walk_tup fun H' _ k => k.sqT List.not_mem_nil h⟩⟩
end
theorem paired_at' {α β : Type} {R : α → β → Prop} : ∀ {xs : List α} {ys : List β} {i : Nat} {y : β}, Paired R xs ys → ys[i]? = some y → ∃ x, xs[i]? = some x ∧ R x y
  | _, _, 0, y, .cons a _, h => by
    simp only [List.getElem?_cons_zero, Option.some.injEq] at h ⊢
    exact ⟨_, rfl, h ▸ a⟩
  | _, _, i + 1, y, .cons _ t, h => by
    simp only [List.getElem?_cons_succ] at h ⊢
    exact paired_at' t h
theorem PartV.kp {K : PySem.W.Frag} {H H' : Hp} {p : Int × Str} {x : V} (k : Kp [] H H') (h : PartV K H p x) : PartV K H' p x := by
  obtain ⟨a, r, e, g⟩ := h
  exact ⟨a, r, e, k.sqT List.not_mem_nil g⟩
theorem heads_go {K : PySem.W.Frag} {H : Hp} {Q : VK} {ah : Addr} {xs : List V} {ps : List (Int × Str)} {u0 u1 u3 u4 : Option V} (b : Bool) (hah : Sq K H ah xs) (hp : Paired (PartV K H) ps xs) (hl : xs.length ≤ 1000)
    (q : ∀ H' D, Kp [] H H' → H' D = some (.lst (ps.map fun p => if b then .str p.2 else .int p.1)) → Q (.ref D) H') :
    tLc (iSeq K (tVar 2)) (gName 5) tYes (tOp (rIxU K) (tVar 5) (tC (.int (if b then 1 else 0)))) [5] [u0, u1, some (.ref ah), u3, u4, none] H Q := by
  have lp : ps.length = xs.length := paired_len hp
  refine seqQ_go rfl hah fun J G w hG => ?_
  intro D nD
  refine lc_acc w (fun i acc H' => acc = (ps.take i).map (fun p => if b then V.str p.2 else .int p.1) ∧ Kp [] H H') ⟨rfl, Kp.refl.upd_new' nD⟩ (fun i acc H' _ h => hG H' (hah.kp h.2 List.not_mem_nil) h.2) (fun i x acc Hc Hb hi hl' hD hP hY => ?_) (fun acc Hc hl' hD hP => ?_)
  · obtain ⟨rfl, kc⟩ := hP
    obtain ⟨rfl, e⟩ := hY
    obtain ⟨p, ep, hpv⟩ := paired_at' hp e
    obtain ⟨c, r, rfl, hc⟩ := hpv.kp kc
    refine ⟨rfl, ?_⟩
    have fin : (∃ acc, Hb D = some (.lst acc) ∧ acc.length < sizeLine ∧ Acc D (fun i acc H' => acc = (ps.take i).map (fun p => if b then V.str p.2 else .int p.1) ∧ Kp [] H H') (i + 1) (upd Hb D (.lst (acc ++ [if b then .str p.2 else .int p.1])))) :=
      acc_go hl' (by omega) hD ⟨by rw [List.take_add_one, ep]; simp, kc.upd_new nD⟩
    cases b with
    | true =>
      walk_at "go"
      exact fin
    | false =>
      walk_at "go"
      exact fin
  · obtain ⟨rfl, kc⟩ := hP
    rw [← lp, List.take_length] at hD
    exact q _ _ kc hD
theorem len_look_at_part (K : PySem.W.Frag) : ∀ vs H Q E, sp_look_at_part K vs H Q E → vs.length = ["path", "part", "ahead", "least", "lengths"].length := by
  intro _ _ _ _ h
  unfold sp_look_at_part at h
  obtain ⟨_, _, _, _, _, _, _, _, _, _, _, rfl, _⟩ := h
  rfl
theorem p_look_at_part (K : PySem.W.Frag) (vs : List V) (H : Hp) (Q : VK) (E : XK) (h : sp_look_at_part K vs H Q E) : t_look_at_part K { nx := fun _ H' => Q .non H', rt := Q } (start ["path", "part", "ahead", "least", "lengths", "other"] vs) H := by
  unfold sp_look_at_part at h
  obtain ⟨path, x, ah, ln, least, p, ps, xs, a, r, ls, rfl, rfl, hx, hl, hm, hah, hp, hxl, hn, n1, n2, l1, l2, q⟩ := h
  have ty := sqT_ty hx
  walk_at "go"
  refine notInIT_go hl ?_
  have e0 : decide ((((V.int p.1 :: V.str p.2 :: r).length : Nat) : Int) ∈ ls) = true := decide_eq_true (by
    rw [show (V.int p.1 :: V.str p.2 :: r).length = 2 + r.length from by simp only [List.length_cons]; omega]
    exact hm)
  rw [e0]
  walk_at "go"
  show sp_is_name K [.str p.2] H _ _
  refine name_go hn fun H1 k1 => ?_
  have hx1 := k1.sqT List.not_mem_nil hx
  walk_at "go"
  refine heads_go true (hah.kp k1 List.not_mem_nil) (paired_imp (fun _ _ h => h.kp k1) hp) hxl fun H2 D k2 hD => ?_
  refine inS_go (zs := ps.map (·.2)) (SqL.of (by rw [hD, List.map_map]; rfl)) ?_
  rw [decide_eq_false n1]
  have k12 := k1.trans k2
  have hx2 := k12.sqT List.not_mem_nil hx
  walk_at "go"
  rw [decide_eq_true l1, decide_eq_true l2]
  walk_at "go"
  refine heads_go false (hah.kp k12 List.not_mem_nil) (paired_imp (fun _ _ h => h.kp k12) hp) hxl fun H3 D3 k3 hD3 => ?_
  refine inI_go (ns := ps.map (·.1)) (SqL.of (by rw [hD3, List.map_map]; rfl)) ?_
  rw [decide_eq_false n2]
  walk_at "go"
  exact q _ (k12.trans k3)
end K02

/-! ## the program's schemas: a kind taken -/
namespace K02
open PySem PySem.Spec PyProof.Rows L2 Kb
open LamX (TabS)
section
variable {K : PySem.W.Frag} {H H' : Hp} {Q : VK} {E : XK} {a : Addr} {xs : List V} {M : List Addr}
theorem heading_go {w z : Str} (hz : NameOk z) (hx : Sq K H a xs) (q : ∀ H', Kp [] H H' → Q .non H') : sp_look_at_heading K [.str w, .str z, .ref a] H Q E := by
  unfold sp_look_at_heading
  exact ⟨w, z, a, xs, rfl, hz, hx, q⟩
theorem part_go {path : V} {c ah ln : Addr} {least : Int} {p : Int × Str} {ps : List (Int × Str)} {r : List V} {ls : List Int} (hx : SqT K H c (.int p.1 :: .str p.2 :: r)) (hl : SqT K H ln (ls.map V.int)) (hm : ((2 + r.length : Nat) : Int) ∈ ls) (hah : Sq K H ah xs) (hp : Paired (PartV K H) ps xs) (hxl : xs.length ≤ 1000)
    (hn : NameOk p.2) (n1 : p.2 ∉ ps.map (·.2)) (n2 : p.1 ∉ ps.map (·.1)) (l1 : least ≤ p.1) (l2 : p.1 ≤ 99) (q : ∀ H', Kp [] H H' → Q .non H') : sp_look_at_part K [path, .ref c, .ref ah, .int least, .ref ln] H Q E := by
  unfold sp_look_at_part
  exact ⟨path, .ref c, ah, ln, least, p, ps, xs, c, r, ls, rfl, rfl, hx, hl, hm, hah, hp, hxl, hn, n1, n2, l1, l2, q⟩
theorem left_go (hx : SqT K H a xs) (l : 3 ≤ xs.length) (q : ∀ H' p, Kp [] H H' → SqT K H' p (xs.drop 3) → Q (.ref p) H') : sp_left_of K [.ref a] H Q E := by
  unfold sp_left_of
  exact ⟨a, xs, rfl, hx, l, q⟩
theorem default_go {s : Srt} {x v : V} (hs : SrtV K H s x) (hv : DfOk K H s v) (q : ∀ H', Kp [] H H' → Q (.bl true) H') : sp_is_default K [x, v] H Q E := by
  unfold sp_is_default
  exact ⟨s, x, v, rfl, hs, hv, q⟩
theorem DfOk.kp0 (k : Kp [] H H') : ∀ {s : Srt} {v : V}, DfOk K H s v → DfOk K H' s v
  | .num _ _, _, h => h
  | .truth, _, h => h
  | .text _, _, h => h
  | .row _ _, _, ⟨a, e, h⟩ => ⟨a, e, k.sqT List.not_mem_nil h⟩
  | .maybe _, _, h => h
  | .node _, _, h => h
  | .pick _, _, h => h
theorem FldV.kp0 {f : Fld} {x : V} (k : Kp [] H H') (h : FldV K H f x) : FldV K H' f x := by
  obtain ⟨a, e, g⟩ := h.at_
  exact ⟨⟨a, e, k.sqT List.not_mem_nil g⟩, h.srt.kp0 k, fun v e => (h.dfl v e).kp0 k⟩
theorem FldV.part {f : Fld} {x : V} (h : FldV K H f x) : PartV K H (f.num, f.name) x := by
  obtain ⟨a, e, g⟩ := h.at_
  exact ⟨a, f.y :: f.dfl.toList, e, g⟩
theorem enumQ_go {n : Nat} {σ : L2.St} {R : It → Hp → Prop} (e : σ[n]? = some (some (.ref a))) (h : Sq K H a xs)
    (q : ∀ J G, Walk J xs.length G (fun i H v H' => ∃ T x, v = .ref T ∧ H T = none ∧ H' = upd H T (.tup [.int (0 + (i : Nat)), x]) ∧ xs[i]? = some x) → (∀ H', Kp [] H H' → G H') → R J H) : iEnumV K (tVar n) σ H R := by
  unfold iEnumV
  rcases h with h | h
  · exact ⟨_, e, a, rfl, .inl ⟨xs, SqL.of h, q _ _ (walk_enumS (S := fun H ys => SqL K H a ys)) fun H' k => k.sqL List.not_mem_nil (SqL.of h)⟩⟩
  · exact ⟨_, e, a, rfl, .inr ⟨xs, h, q _ _ (walk_enumS (S := fun H ys => SqT K H a ys)) fun H' k => k.sqT List.not_mem_nil h⟩⟩
theorem cut_take (xs : List V) {i : Nat} (l : i ≤ xs.length) : cutV xs none (some (i : Int)) = xs.take i := by
  unfold cutV
  rw [HT.sIx_nat, show HT.sIx xs.length 0 none = 0 from rfl, Nat.min_eq_left l]
  simp
theorem slQ_go {i : Nat} (h : Sq K H a xs) (l : i < xs.length) (q : ∀ H' p, Kp [] H H' → Sq K H' p (xs.take i) → Q (.ref p) H') : rSlV K (.ref a) none (some (i : Int)) H Q := by
  unfold rSlV
  rcases h with h | h
  · refine .inl (slL_go (SqL.of h) fun p np => ?_)
    rw [cut_take xs (by omega)]
    exact q _ p (Kp.refl.upd_new' np) (.inl upd_same)
  · refine .inr ⟨a, xs, rfl, h, fun e => ?_, fun _ p np => ?_⟩
    · have := e.2
      rw [HT.sIx_nat] at this
      omega
    · rw [cut_take xs (by omega)]
      exact q _ p (Kp.refl.upd_new' np) (.inr (SqT.of upd_same))
theorem tabS_kp {P : Addr} {q : Str} (t : TabS H P q) (k : Kp M H H') (n : P ∉ M) (nc : ∀ a ∈ M, ∀ c z, H a ≠ some (LamX.CodeO c z)) : TabS H' P q := by
  obtain ⟨ps, h1, h2, h3⟩ := t
  refine ⟨ps, k _ _ n h1, h2, fun pos cv hc => ?_⟩
  obtain ⟨c, e1, e2⟩ := h3 pos cv hc
  exact ⟨c, e1, k _ _ (fun z => nc c z _ _ e2) e2⟩
theorem tabS_no {P : Addr} {q : Str} (t : TabS H P q) : ∀ c z, H P ≠ some (LamX.CodeO c z) := fun c z e => by
  obtain ⟨ps, h1, _⟩ := t
  rw [h1] at e
  exact LamX.codeO_ne ps (Option.some.inj e).symm
theorem tabS_ne {P : Addr} {q : Str} {o : HO} (t : TabS H P q) (h : H a = some o) (n : ∀ ps, o ≠ .tbl ps) : a ≠ P := fun e => by
  obtain ⟨ps, h1, _⟩ := t
  rw [← e, h] at h1
  exact n ps (Option.some.inj h1)
theorem Tbl.kpA {Pt : Tb} (t : Tbl Pt H) (k : Kp [Pt.a] H H') (ta : TabS H' Pt.a qa) : Tbl Pt H' := ⟨ta, tabS_kp t.b k (fun m => t.ab (List.mem_singleton.mp m).symm) (fun a m => by rw [List.mem_singleton.mp m]; exact tabS_no t.a), tabS_kp t.c k (fun m => t.ac (List.mem_singleton.mp m).symm) (fun a m => by rw [List.mem_singleton.mp m]; exact tabS_no t.a), t.ab, t.ac, t.bc⟩
theorem Tbl.kpB {Pt : Tb} (t : Tbl Pt H) (k : Kp [Pt.b] H H') (tb : TabS H' Pt.b qb) : Tbl Pt H' := ⟨tabS_kp t.a k (fun m => t.ab (List.mem_singleton.mp m)) (fun a m => by rw [List.mem_singleton.mp m]; exact tabS_no t.b), tb, tabS_kp t.c k (fun m => t.bc (List.mem_singleton.mp m).symm) (fun a m => by rw [List.mem_singleton.mp m]; exact tabS_no t.b), t.ab, t.ac, t.bc⟩
theorem Tbl.updD {Pt : Tb} (t : Tbl Pt H) {D : Addr} {kvs : List (L2.Key × V)} {o : HO} (h : H D = some (.dK kvs)) : Tbl Pt (upd H D o) := by
  have kD : Kp [D] H (upd H D o) := Kp.refl.upd_in List.mem_cons_self
  have n : ∀ {P : Addr} {q : Str}, TabS H P q → P ∉ [D] := fun t m => tabS_ne t h (fun ps e => by cases e) (List.mem_singleton.mp m).symm
  have no : ∀ a ∈ [D], ∀ c z, H a ≠ some (LamX.CodeO c z) := fun a m c z e => by
    rw [List.mem_singleton.mp m, h] at e
    cases e
  exact ⟨tabS_kp t.a kD (n t.a) no, tabS_kp t.b kD (n t.b) no, tabS_kp t.c kD (n t.c) no, t.ab, t.ac, t.bc⟩
theorem Tbl.kp {Pt : Tb} (t : Tbl Pt H) (k : Kp M H H') (n1 : Pt.a ∉ M) (n2 : Pt.b ∉ M) (n3 : Pt.c ∉ M) (nc : ∀ a ∈ M, ∀ φ, H a ≠ some (.ext φ)) : Tbl Pt H' := ⟨Kb.TabS.kp t.a k n1 nc, Kb.TabS.kp t.b k n2 nc, Kb.TabS.kp t.c k n3 nc, t.ab, t.ac, t.bc⟩
theorem Tbl.kp0 {Pt : Tb} (t : Tbl Pt H) (k : Kp [] H H') : Tbl Pt H' := t.kp k List.not_mem_nil List.not_mem_nil List.not_mem_nil fun a m => nomatch m
theorem paired_take {α β : Type} {R : α → β → Prop} : ∀ {xs : List α} {ys : List β} (i : Nat), Paired R xs ys → Paired R (xs.take i) (ys.take i)
  | _, _, 0, _ => by simp; exact .nil
  | _, _, i + 1, .nil => .nil
  | _, _, i + 1, .cons a t => .cons a (paired_take i t)
theorem paired_map {α β γ : Type} {R : α → β → Prop} {S : γ → β → Prop} (f : α → γ) (h : ∀ a b, R a b → S (f a) b) : ∀ {xs : List α} {ys : List β}, Paired R xs ys → Paired S (xs.map f) ys
  | _, _, .nil => .nil
  | _, _, .cons a t => .cons (h _ _ a) (paired_map f h t)
theorem nodup_take {α : Type} {xs : List α} {i : Nat} {x : α} (h : xs.Nodup) (e : xs[i]? = some x) : x ∉ xs.take i := fun m => by
  obtain ⟨j, hj, ej⟩ := List.getElem_of_mem m
  rw [List.length_take] at hj
  rw [List.getElem_take] at ej
  obtain ⟨hi, ei⟩ := List.getElem?_eq_some_iff.mp e
  have := (List.getElem_inj (h₀ := by omega) (h₁ := hi) h).mp (ej.trans ei.symm)
  omega
end
theorem len_Schema_take_kind (K : PySem.W.Frag) (Pt : Tb) : ∀ vs H Q E, sp_Schema_take_kind K Pt vs H Q E → vs.length = ["self", "kinds", "choices", "name", "row"].length := by
  intro _ _ _ _ h
  unfold sp_Schema_take_kind at h
  obtain ⟨_, _, _, _, _, _, _, _, _, _, _, _, _, _, rfl, _⟩ := h
  rfl
theorem p_Schema_take_kind (K : PySem.W.Frag) (C : Addr) (O : Own K C) (Pt : Tb) (vs : List V) (H : Hp) (Q : VK) (E : XK) (h : sp_Schema_take_kind K Pt vs H Q E) : t_Schema_take_kind K C Pt { nx := fun _ H' => Q .non H', rt := Q } (start ["self", "kinds", "choices", "name", "row", "place", "field", "path", "left"] vs) H := by
  unfold sp_Schema_take_kind at h
  obtain ⟨a, ka, ca, z, ra, dx, D1, D2, root, kvs, kk, ck, fls, xs, rfl, ha, hD, hl, hk, hc, hz, hx, rf, tb, q⟩ := h
  obtain ⟨cl, n1, n2, n3, _, _⟩ := O.Schema
  walk_at "go"
  show sp_look_at_heading K [.str (PySem.Str.ofString "kind"), .str z, .ref ra] H _ _
  refine heading_go hz hx fun H1 k1 => ?_
  walk_at "go"
  refine enumQ_go rfl (hx.kp k1 List.not_mem_nil) fun J G w hG => ?_
  refine for_it w (fun i σ H' => Kp [] H1 H' ∧ ∃ u5 u6 u7 u8, σ = [some (.ref a), some (.ref ka), some (.ref ca), some (.str z), some (.ref ra), u5, u6, u7, u8]) ⟨Kp.refl, _, _, _, _, rfl⟩ (fun i σ H' _ h => hG H' h.1) ?_ (fun σ H' h => ?_)
  · rintro i x σ Ha Hb hi ⟨ka8, u5, u6, u7, u8, rfl⟩ ⟨T, y, rfl, nT, rfl, ey⟩
    have kT := ka8.upd_new' (o := .tup [.int (0 + (i : Nat)), y]) nT
    have hT : (upd Ha T (.tup [.int (0 + (i : Nat)), y])) T = some (.tup [.int (0 + (i : Nat)), y]) := upd_same
    rw [show (0 : Int) + (i : Nat) = (i : Int) by omega] at kT hT ⊢
    generalize upd Ha T (.tup [.int (i : Int), y]) = Hc at kT hT ⊢
    obtain ⟨f, ef, fv⟩ := paired_at' rf.at_ ey
    obtain ⟨c, rfl, hcc⟩ := fv.at_
    have fok := rf.ok f (List.mem_of_getElem? ef)
    have kH := k1.trans kT
    have hra := hx.kp kH List.not_mem_nil
    walk_at "go"
    rename_i p np
    refine slQ_go (hra.kp (Kp.refl.upd_new' np) List.not_mem_nil) hi fun H2 p2 k2 hp2 => ?_
    have k3 : Kp [] Hc H2 := (Kp.refl.upd_new' np).trans k2
    walk_at "go"
    rename_i ln nln
    show sp_look_at_part K [.ref p, .ref c, .ref p2, .int 1, .ref ln] _ _ _
    have k4 : Kp [] Hc (upd H2 ln (.tup [.int 3, .int 4])) := k3.upd_new' nln
    have kH4 := kH.trans k4
    have fv4 := fv.kp0 kH4
    obtain ⟨c', ec, hc4⟩ := fv4.at_
    cases ec
    have lf : f.dfl.toList.length ≤ 1 := by cases f.dfl <;> simp
    refine part_go (p := (f.num, f.name)) (ps := (fls.take i).map fun f => (f.num, f.name)) (xs := xs.take i) (ls := [3, 4]) hc4 (SqT.of upd_same) ?_ (hp2.kp (Kp.refl.upd_new' nln) List.not_mem_nil) (paired_map _ (fun f x h => (h.kp0 kH4).part) (paired_take i rf.at_)) (by have := rf.le; rw [List.length_take]; omega) fok.name ?_ ?_ fok.lo fok.hi fun H5 k5 => ?_
    · cases f.dfl <;> simp
    · have h := nodup_take rf.names (i := i) (x := f.name) (by rw [List.getElem?_map, ef]; rfl)
      rw [List.map_map]
      rw [← List.map_take] at h
      exact h
    · have h := nodup_take rf.nums (i := i) (x := f.num) (by rw [List.getElem?_map, ef]; rfl)
      rw [List.map_map]
      rw [← List.map_take] at h
      exact h
    · have kH5 := kH4.trans k5
      have fv5 := fv.kp0 kH5
      obtain ⟨c', ec, hc5⟩ := fv5.at_
      cases ec
      have hc5' : SqT K H5 c (.int f.num :: .str f.name :: f.y :: f.dfl.toList) := hc5
      walk_at "go"
      show sp_is_sort K 4 [.ref ka, .ref ca, f.y, .int 0] H5 _ _
      refine sort_go (n := 3) (Rd.kp hk kH5) (Rd.kp hc kH5) fv5.srt fok.srt (by omega) (by omega) fun H6 k6 => ?_
      have hc6 := k6.sqT List.not_mem_nil hc5'
      have kH6 := kH5.trans k6
      have fv6 := fv5.kp0 k6
      walk_at "go"
      show sp_left_of K [.ref c] H6 _ _
      refine left_go hc6 (by simp) fun H7 pl k7 hpl => ?_
      have kH7 := kH6.trans k7
      refine ⟨pl, rfl, ⟨_, hpl⟩, fun D nD => ?_⟩
      refine lc_acc (walk_tup (xs := f.dfl.toList)) (fun i acc H' => acc = List.replicate i (V.bl true) ∧ Kp [] H7 H') ⟨rfl, Kp.refl.upd_new' nD⟩ (fun _ _ _ _ h => h.2.sqT List.not_mem_nil hpl) (fun j v acc Hd He hj hl' hD' hP hY => ?_) (fun acc Hd hl' hD' hP => ?_)
      · obtain ⟨rfl, kd⟩ := hP
        obtain ⟨rfl, e⟩ := hY
        have fvd := (fv6.kp0 k7).kp0 kd
        have dv := fvd.dfl v (by
          have := List.mem_of_getElem? e
          rwa [Option.mem_toList] at this)
        have hcd := (k7.trans kd).sqT List.not_mem_nil hc6
        refine ⟨rfl, ?_⟩
        walk_at "go"
        show sp_is_default K [f.y, v] He _ _
        refine default_go fvd.srt dv fun H8 k8 => ?_
        exact acc_go hl' (by omega) (k8.at_ List.not_mem_nil hD') ⟨by rw [List.replicate_succ'], (kd.trans k8).upd_new nD⟩
      · obtain ⟨rfl, kd⟩ := hP
        walk_at "go"
        refine all_go (bs := List.replicate f.dfl.toList.length true) (SqL.of (by rw [List.map_replicate]; exact hD')) ?_
        rw [show (List.replicate f.dfl.toList.length true).all id = true from by simp]
        walk_at "go"
        exact ⟨kT.trans (k4.trans (k5.trans (k6.trans (k7.trans kd)))), _, _, _, _, rfl⟩
  · obtain ⟨kG, u5, u6, u7, u8, rfl⟩ := h
    have kH := k1.trans kG
    walk_at "go"
    have hra := hx.kp kH List.not_mem_nil
    have tb2 := tb.kp0 kH
    refine ⟨tb2.a, ra, xs, fls.map (·.num), rfl, hra.imp SqL.of id, paired_map _ (fun f x h => by
      obtain ⟨c, e, g⟩ := (h.kp0 kH).at_
      exact ⟨c, _, e, g⟩) rf.at_, fun H2 ys p k2 ta np bk => ?_⟩
    have aP := tabS_ne tb.a ha (fun ps e => by cases e)
    have dP := tabS_ne tb.a hD (fun ps e => by cases e)
    have ha2 := k2.at_ (fun m => aP (List.mem_singleton.mp m)) (kH.at_ List.not_mem_nil ha)
    have hD2 := k2.at_ (fun m => dP (List.mem_singleton.mp m)) (kH.at_ List.not_mem_nil hD)
    refine tuple_goL (SqL.of upd_same) fun l nl => ?_
    have pl : p ≠ l := ne_of_none upd_same nl
    have nl2 : H2 l = none := by rwa [upd_ne pl.symm] at nl
    have ha3 : (upd (upd H2 p (.lst ys)) l (.tup ys)) a = some (.ins (cAt K "Schema") dx (schF D1 D2 root)) := (upd_ne (ne_of_none ha2 nl2)).trans ((upd_ne (ne_of_none ha2 np)).trans ha2)
    have hD3 : (upd (upd H2 p (.lst ys)) l (.tup ys)) D1 = some (.dK kvs) := (upd_ne (ne_of_none hD2 nl2)).trans ((upd_ne (ne_of_none hD2 np)).trans hD2)
    have k3 : Kp [Pt.a] H (upd (upd H2 p (.lst ys)) l (.tup ys)) := (kH.mono fun _ m => nomatch m).trans ((k2.upd_new' np).upd_new' nl)
    walk_at "go"
    have tb3 : Tbl Pt (upd (upd H2 p (.lst ys)) l (.tup ys)) := (tb2.kpA k2 ta).kp0 ((Kp.refl.upd_new' np).upd_new' nl)
    refine ⟨D1, _, rfl, DPut.k (k := .inr z) hD3 (szlt_of (by omega)), ?_⟩
    have lD : l ≠ D1 := (ne_of_none hD2 nl2).symm
    exact q _ l ys ((k3.mono fun x m => List.mem_cons_of_mem _ m).upd_in List.mem_cons_self) (tb3.updD hD3) (kH.none_of List.not_mem_nil (k2.none_of (fun m => by
      obtain ⟨ps, h, _⟩ := ta
      rw [← List.mem_singleton.mp m, nl2] at h
      cases h) nl2)) ((upd_ne lD).trans upd_same) bk upd_same
end K02

/-! ## the program's schemas: a choice taken -/
namespace K02
open PySem PySem.Spec PyProof.Rows L2 Kb
open LamX (TabS)
section
variable {K : PySem.W.Frag} {H H' : Hp} {Q : VK} {E : XK} {a : Addr} {xs : List V} {M : List Addr}
theorem CseV.kp0 {f : Cse} {x : V} (k : Kp [] H H') (h : CseV K H f x) : CseV K H' f x := by
  obtain ⟨a, e, g⟩ := h.at_
  exact ⟨⟨a, e, k.sqT List.not_mem_nil g⟩, fun s e => (h.srt s e).kp0 k, h.non⟩
theorem CseV.part {f : Cse} {x : V} (h : CseV K H f x) : PartV K H (f.num, f.name) x := by
  obtain ⟨a, e, g⟩ := h.at_
  exact ⟨a, [f.y], e, g⟩
theorem lenQ_go (h : Sq K H a xs) (q : Q (.int xs.length) H) : rLenU K [.ref a] H Q := by
  rcases h with h | h
  · exact len_lst (SqL.of h) q
  · exact len_tup h q
end
theorem len_Schema_take_choice (K : PySem.W.Frag) (Pt : Tb) : ∀ vs H Q E, sp_Schema_take_choice K Pt vs H Q E → vs.length = ["self", "kinds", "choices", "name", "row"].length := by
  intro _ _ _ _ h
  unfold sp_Schema_take_choice at h
  obtain ⟨_, _, _, _, _, _, _, _, _, _, _, _, _, _, rfl, _⟩ := h
  rfl
theorem p_Schema_take_choice (K : PySem.W.Frag) (C : Addr) (O : Own K C) (Pt : Tb) (vs : List V) (H : Hp) (Q : VK) (E : XK) (h : sp_Schema_take_choice K Pt vs H Q E) : t_Schema_take_choice K C Pt { nx := fun _ H' => Q .non H', rt := Q } (start ["self", "kinds", "choices", "name", "row", "place", "case", "path", "number", "word", "content"] vs) H := by
  unfold sp_Schema_take_choice at h
  obtain ⟨a, ka, ca, z, ra, dx, D1, D2, root, kvs, kk, ck, cs, xs, rfl, ha, hD, hl, hk, hc, hz, hx, rf, tb, q⟩ := h
  obtain ⟨cl, n1, n2, n3, _, _⟩ := O.Schema
  walk_at "go"
  show sp_look_at_heading K [.str (PySem.Str.ofString "choice"), .str z, .ref ra] H _ _
  refine heading_go hz hx fun H1 k1 => ?_
  walk_at "go"
  refine lenQ_go (hx.kp k1 List.not_mem_nil) ?_
  have xs0 : xs.length ≠ 0 := by
    rw [← paired_len rf.at_]
    have := rf.ne
    cases cs with
    | nil => exact absurd rfl this
    | cons _ _ => simp
  walk_at "go"
  rw [decide_eq_false (show ¬ (xs.length : Int) = 0 by omega)]
  walk_at "go"
  rename_i p0 np0
  have k1 := k1.upd_new' (o := .tup [.str "choice", .str z, .int (-1)]) np0
  generalize upd H1 p0 _ = H1 at k1 ⊢
  refine enumQ_go rfl (hx.kp k1 List.not_mem_nil) fun J G w hG => ?_
  refine for_it w (fun i σ H' => Kp [] H1 H' ∧ ∃ u5 u6 u7 u8 u9 u10, σ = [some (.ref a), some (.ref ka), some (.ref ca), some (.str z), some (.ref ra), u5, u6, u7, u8, u9, u10]) ⟨Kp.refl, _, _, _, _, _, _, rfl⟩ (fun i σ H' _ h => hG H' h.1) ?_ (fun σ H' h => ?_)
  · rintro i x σ Ha Hb hi ⟨ka8, u5, u6, u7, u8, u9, u10, rfl⟩ ⟨T, y, rfl, nT, rfl, ey⟩
    have kT := ka8.upd_new' (o := .tup [.int (0 + (i : Nat)), y]) nT
    have hT : (upd Ha T (.tup [.int (0 + (i : Nat)), y])) T = some (.tup [.int (0 + (i : Nat)), y]) := upd_same
    rw [show (0 : Int) + (i : Nat) = (i : Int) by omega] at kT hT ⊢
    generalize upd Ha T (.tup [.int (i : Int), y]) = Hc at kT hT ⊢
    obtain ⟨f, ef, fv⟩ := paired_at' rf.at_ ey
    obtain ⟨c, rfl, hcc⟩ := fv.at_
    have fok := rf.ok f (List.mem_of_getElem? ef)
    have kH := k1.trans kT
    have hra := hx.kp kH List.not_mem_nil
    walk_at "go"
    rename_i p np
    refine slQ_go (hra.kp (Kp.refl.upd_new' np) List.not_mem_nil) hi fun H2 p2 k2 hp2 => ?_
    have k3 : Kp [] Hc H2 := (Kp.refl.upd_new' np).trans k2
    walk_at "go"
    rename_i ln nln
    show sp_look_at_part K [.ref p, .ref c, .ref p2, .int 0, .ref ln] _ _ _
    have k4 : Kp [] Hc (upd H2 ln (.tup [.int 3])) := k3.upd_new' nln
    have kH4 := kH.trans k4
    have fv4 := fv.kp0 kH4
    obtain ⟨c', ec, hc4⟩ := fv4.at_
    cases ec
    refine part_go (p := (f.num, f.name)) (ps := (cs.take i).map fun f => (f.num, f.name)) (xs := xs.take i) (ls := [3]) hc4 (SqT.of upd_same) ?_ (hp2.kp (Kp.refl.upd_new' nln) List.not_mem_nil) (paired_map _ (fun f x h => (h.kp0 kH4).part) (paired_take i rf.at_)) (by have := rf.le; rw [List.length_take]; omega) fok.name ?_ ?_ fok.lo fok.hi fun H5 k5 => ?_
    · simp
    · have h := nodup_take rf.names (i := i) (x := f.name) (by rw [List.getElem?_map, ef]; rfl)
      rw [List.map_map]
      rw [← List.map_take] at h
      exact h
    · have h := nodup_take rf.nums (i := i) (x := f.num) (by rw [List.getElem?_map, ef]; rfl)
      rw [List.map_map]
      rw [← List.map_take] at h
      exact h
    · have kH5 := kH4.trans k5
      have fv5 := fv.kp0 kH5
      obtain ⟨c', ec, hc5⟩ := fv5.at_
      cases ec
      have fz : f.s = none ∨ ∃ s, f.s = some s := by cases f.s <;> simp
      have hc5' : SqT K H5 c (.int f.num :: .str f.name :: [f.y]) := hc5
      rcases fz with fz | ⟨s, fz⟩
      · rw [fv5.non fz] at hc5'
        walk_at "go"
        all_goals exact ⟨kT.trans (k4.trans k5), _, _, _, _, _, _, rfl⟩
      · have ss := fv5.srt s fz
        obtain ⟨b, w, r, eb, hb⟩ := srt_head ss
        rw [eb] at hc5' ss
        have nz : ¬ f.num = 0 := fun e => by
          rw [fok.zero e] at fz
          cases fz
        walk_at "go"
        show sp_is_sort K 4 [.ref ka, .ref ca, .ref b, .int 0] H5 _ _
        refine sort_go (n := 3) (Rd.kp hk kH5) (Rd.kp hc kH5) ss (fok.srt s fz) (by omega) (by omega) fun H6 k6 => ?_
        walk_at "go"
        all_goals first
          | exact absurd (by assumption) nz
          | exact ⟨kT.trans (k4.trans (k5.trans k6)), _, _, _, _, _, _, rfl⟩
  · obtain ⟨kG, u5, u6, u7, u8, u9, u10, rfl⟩ := h
    have kH := k1.trans kG
    walk_at "go"
    have hra := hx.kp kH List.not_mem_nil
    have tb2 := tb.kp0 kH
    refine ⟨tb2.b, ra, xs, cs.map (·.num), rfl, hra.imp SqL.of id, paired_map _ (fun f x h => by
      obtain ⟨c, e, g⟩ := (h.kp0 kH).at_
      exact ⟨c, _, e, g⟩) rf.at_, fun H2 ys p k2 ta np bk => ?_⟩
    have aP := tabS_ne tb.b ha (fun ps e => by cases e)
    have dP := tabS_ne tb.b hD (fun ps e => by cases e)
    have ha2 := k2.at_ (fun m => aP (List.mem_singleton.mp m)) (kH.at_ List.not_mem_nil ha)
    have hD1 := k2.at_ (fun m => dP (List.mem_singleton.mp m)) (kH.at_ List.not_mem_nil hD)
    refine tuple_goL (SqL.of upd_same) fun l nl => ?_
    have pl : p ≠ l := ne_of_none upd_same nl
    have nl2 : H2 l = none := by rwa [upd_ne pl.symm] at nl
    have ha3 : (upd (upd H2 p (.lst ys)) l (.tup ys)) a = some (.ins (cAt K "Schema") dx (schF D1 D2 root)) := (upd_ne (ne_of_none ha2 nl2)).trans ((upd_ne (ne_of_none ha2 np)).trans ha2)
    have hD3 : (upd (upd H2 p (.lst ys)) l (.tup ys)) D2 = some (.dK kvs) := (upd_ne (ne_of_none hD1 nl2)).trans ((upd_ne (ne_of_none hD1 np)).trans hD1)
    have k3 : Kp [Pt.b] H (upd (upd H2 p (.lst ys)) l (.tup ys)) := (kH.mono fun _ m => nomatch m).trans ((k2.upd_new' np).upd_new' nl)
    walk_at "go"
    have tb3 : Tbl Pt (upd (upd H2 p (.lst ys)) l (.tup ys)) := (tb2.kpB k2 ta).kp0 ((Kp.refl.upd_new' np).upd_new' nl)
    refine ⟨D2, _, rfl, DPut.k (k := .inr z) hD3 (szlt_of (by omega)), ?_⟩
    have lD : l ≠ D2 := (ne_of_none hD1 nl2).symm
    exact q _ l ys ((k3.mono fun x m => List.mem_cons_of_mem _ m).upd_in List.mem_cons_self) (tb3.updD hD3) (kH.none_of List.not_mem_nil (k2.none_of (fun m => by
      obtain ⟨ps, h, _⟩ := ta
      rw [← List.mem_singleton.mp m, nl2] at h
      cases h) nl2)) ((upd_ne lD).trans upd_same) bk upd_same
end K02

/-! ## the program's schemas: does a choice come back to itself -/
namespace K02
open PySem PySem.Spec PyProof.Rows L2 Kb
theorem len_Schema_comes_back (K : PySem.W.Frag) : ∀ vs H Q E, sp_Schema_comes_back K vs H Q E → vs.length = ["self", "name"].length := by
  intro _ _ _ _ h
  unfold sp_Schema_comes_back at h
  obtain ⟨_, _, _, _, _, _, _, _, _, rfl, _⟩ := h
  rfl
theorem Leads.kp0 {K : PySem.W.Frag} {H H' : Hp} {kvs : List (L2.Key × V)} {z : Str} {to : Option Str} (k : Kp [] H H') (h : Leads K H kvs z to) : Leads K H' kvs z to := by
  obtain ⟨T, c, r, num, nm, y, h1, h2, h3, h4⟩ := h
  refine ⟨T, c, r, num, nm, y, h1, k.at_ List.not_mem_nil h2, k.sqT List.not_mem_nil h3, ?_⟩
  cases to with
  | none => exact h4.imp id fun ⟨b, w, r', e, g, n⟩ => ⟨b, w, r', e, k.sqT List.not_mem_nil g, n⟩
  | some z' =>
    obtain ⟨b, e, g⟩ := h4
    exact ⟨b, e, k.sqT List.not_mem_nil g⟩
theorem p_Schema_comes_back (K : PySem.W.Frag) (C : Addr) (O : Own K C) (vs : List V) (H : Hp) (Q : VK) (E : XK) (h : sp_Schema_comes_back K vs H Q E) : t_Schema_comes_back K C { nx := fun _ H' => Q .non H', rt := Q } (start ["self", "name", "seen", "at", "content"] vs) H := by
  unfold sp_Schema_comes_back at h
  obtain ⟨a, z, dx, D1, D2, root, kvs, rank, N, rfl, ha, hD, hN, hw, hz, q⟩ := h
  obtain ⟨cl, n1, n2, n3, _, _⟩ := O.Schema
  walk_at "go"
  rename_i S nS
  refine ⟨fun m σ H' => Kp [] H H' ∧ ∃ w ss u, m = N - rank w ∧ σ = [some (.ref a), some (.str z), some (.ref S), some (.str w), u] ∧ H' S = some (.dK ss) ∧ keyIn kvs w ∧ ss.length + (N - rank w) ≤ N ∧ ∀ k, (valV ss k).isSome = true → ∃ v, k = .inr v ∧ rank v < rank w, ⟨_, Kp.refl.upd_new' nS, z, [], none, rfl, rfl, upd_same, hz, by simp, fun k e => by cases e⟩, ?_⟩
  rintro m σ H1 ⟨k1, w, ss, u, rfl, rfl, hS, hk, hl, hr⟩
  have nw : valV ss (.inr w) = none := by
    cases e : valV ss (.inr w) with
    | none => rfl
    | some _ =>
      obtain ⟨v, ev, lt⟩ := hr (.inr w) (by rw [e]; rfl)
      cases ev
      omega
  walk_at "go"
  refine ⟨S, none, rfl, nw ▸ DGet.k (k := .inr w) hS, ?_⟩
  refine ⟨true, rfl, iteT ?_⟩
  have hDr := Rd.kp hD k1
  refine ⟨_, fun σ' H' h => h, ?_⟩
  obtain ⟨to, ld, lt⟩ := hw w hk
  have ld1 := ld.kp0 k1
  walk_at "go"
  refine ⟨S, _, rfl, DPut.k (k := .inr w) hS (szlt_of (by omega)), ?_⟩
  have nSH := nS
  have k2 : Kp [] H (upd H1 S (.dK (putK ss (.inr w) (.bl true)))) := k1.upd_new nS
  have ld2 := ld.kp0 k2
  have hD2 := Rd.kp hD k2
  have ha2 := k2.at_ List.not_mem_nil ha
  have hS2 : (upd H1 S (.dK (putK ss (.inr w) (.bl true)))) S = some (.dK (putK ss (.inr w) (.bl true))) := upd_same
  generalize upd H1 S (.dK (putK ss (.inr w) (.bl true))) = H2 at k2 ld2 hD2 ha2 hS2 ⊢
  obtain ⟨T, c, r, num, nm, y, e1, e2, e3, e4⟩ := ld2
  have e2' : SqT K H2 T (.ref c :: r) := SqT.of e2
  walk_at "go"
  refine ⟨D2, .ref T, rfl, .inl ⟨kvs, .inr w, hD2, rfl, e1.symm⟩, ?_⟩
  cases to with
  | none =>
    rcases e4 with rfl | ⟨b, w', r', rfl, e4, ne⟩
    · walk_at "go"
      all_goals first
        | exact q _ k2
        | exact absurd rfl (by assumption)
    · walk_at "go"
      all_goals first
        | exact q _ k2
        | exact absurd (by assumption) ne
  | some z' =>
    obtain ⟨b, rfl, e4⟩ := e4
    obtain ⟨l1, l2, l3⟩ := lt z' rfl
    walk_at "go"
    all_goals first
      | exact absurd rfl (by assumption)
      | skip
    refine ⟨N - rank z', by omega, k2, z', _, _, rfl, rfl, hS2, l1, ?_, ?_⟩
    · have := length_putK ss (.inr w) (.bl true)
      omega
    · intro k hk
      rw [valV_put] at hk
      by_cases e : k = .inr w
      · exact ⟨w, e, l2⟩
      · rw [if_neg e] at hk
        obtain ⟨v, e, l⟩ := hr k hk
        exact ⟨v, e, by omega⟩
end K02

/-! ## the program's schemas: made -/
namespace K02
open PySem PySem.Spec PyProof.Rows L2 Kb
open LamX (TabS)
section
variable {K : PySem.W.Frag} {H H' : Hp} {a : Addr} {xs : List V} {M : List Addr}
/-- no list and no tuple stands at b -/
def NoSq (H : Hp) (b : Addr) : Prop := ∀ u, H b = some u → (∀ xs, u ≠ .tup xs) ∧ (∀ o xs, u ≠ .frz o (.tup xs)) ∧ ∀ xs, u ≠ .lst xs
theorem sqT_kpN (k : Kp M H H') (l : ∀ b ∈ M, NoSq H b) (h : SqT K H a xs) : SqT K H' a xs := by
  rcases h with (h | ⟨o, h⟩) | h
  · exact .inl (.inl (k _ _ (fun z => (l a z _ h).1 _ rfl) h))
  · exact .inl (.inr ⟨o, k _ _ (fun z => (l a z _ h).2.1 _ _ rfl) h⟩)
  · exact .inr h
theorem Sq.kpN (k : Kp M H H') (l : ∀ b ∈ M, NoSq H b) (h : Sq K H a xs) : Sq K H' a xs :=
  h.imp (fun h => k _ _ (fun z => (l a z _ h).2.2 _ rfl) h) (sqT_kpN k l)
theorem SrtV.kpN (k : Kp M H H') (l : ∀ b ∈ M, NoSq H b) : ∀ {s : Srt} {x : V}, SrtV K H s x → SrtV K H' s x
  | .num _ _, _, ⟨a, h, g⟩ => ⟨a, h, sqT_kpN k l g⟩
  | .truth, _, ⟨a, h, g⟩ => ⟨a, h, sqT_kpN k l g⟩
  | .text _, _, ⟨a, h, g⟩ => ⟨a, h, sqT_kpN k l g⟩
  | .row _ _, _, ⟨a, y, h, g, r⟩ => ⟨a, y, h, sqT_kpN k l g, r.kpN k l⟩
  | .maybe _, _, ⟨a, y, h, g, r⟩ => ⟨a, y, h, sqT_kpN k l g, r.kpN k l⟩
  | .node _, _, ⟨a, h, g⟩ => ⟨a, h, sqT_kpN k l g⟩
  | .pick _, _, ⟨a, h, g⟩ => ⟨a, h, sqT_kpN k l g⟩
theorem DfOk.kpN (k : Kp M H H') (l : ∀ b ∈ M, NoSq H b) : ∀ {s : Srt} {v : V}, DfOk K H s v → DfOk K H' s v
  | .num _ _, _, h => h
  | .truth, _, h => h
  | .text _, _, h => h
  | .row _ _, _, ⟨a, e, h⟩ => ⟨a, e, sqT_kpN k l h⟩
  | .maybe _, _, h => h
  | .node _, _, h => h
  | .pick _, _, h => h
theorem FldV.kpN {f : Fld} {x : V} (k : Kp M H H') (l : ∀ b ∈ M, NoSq H b) (h : FldV K H f x) : FldV K H' f x := by
  obtain ⟨a, e, g⟩ := h.at_
  exact ⟨⟨a, e, sqT_kpN k l g⟩, h.srt.kpN k l, fun v e => (h.dfl v e).kpN k l⟩
theorem CseV.kpN {f : Cse} {x : V} (k : Kp M H H') (l : ∀ b ∈ M, NoSq H b) (h : CseV K H f x) : CseV K H' f x := by
  obtain ⟨a, e, g⟩ := h.at_
  exact ⟨⟨a, e, sqT_kpN k l g⟩, fun s e => (h.srt s e).kpN k l, h.non⟩
theorem KRow.ok.kpN {nk ck : Str → Prop} {r : KRow} (k : Kp M H H') (l : ∀ b ∈ M, NoSq H b) (h : r.ok K H nk ck) : r.ok K H' nk ck :=
  ⟨h.name, h.sq.kpN k l, paired_imp (fun _ _ g => g.kpN k l) h.row.at_, h.row.ok, h.row.names, h.row.nums, h.row.le⟩
theorem CRow.ok.kpN {nk ck : Str → Prop} {rank : Str → Nat} {N : Nat} {r : CRow} (k : Kp M H H') (l : ∀ b ∈ M, NoSq H b) (h : r.ok K H nk ck rank N) : r.ok K H' nk ck rank N :=
  ⟨h.name, h.sq.kpN k l, ⟨paired_imp (fun _ _ g => g.kpN k l) h.row.at_, h.row.ok, h.row.names, h.row.nums, h.row.ne, h.row.le⟩, h.up⟩
theorem paired_snoc {α β : Type} {R : α → β → Prop} {a : α} {b : β} : ∀ {xs : List α} {ys : List β}, Paired R xs ys → R a b → Paired R (xs ++ [a]) (ys ++ [b])
  | _, _, .nil, h => .cons h .nil
  | _, _, .cons a t, h => .cons a (paired_snoc t h)
theorem Done.keys {H H' : Hp} {rs : List (Str × List Int × List V)} {kvs : List (L2.Key × V)} (h : Done H H' rs kvs) : kvs.map (·.1) = rs.map fun r => .inr r.1 := by
  unfold Done at h
  induction h with
  | nil => rfl
  | cons a _ ih => rw [List.map_cons, List.map_cons, ih, a.1]
theorem Done.kp {H H' H2 : Hp} {rs : List (Str × List Int × List V)} {kvs : List (L2.Key × V)} (h : Done H H' rs kvs) (k : Kp M H' H2) (l : ∀ b ∈ M, NoSq H' b) : Done H H2 rs kvs :=
  paired_imp (fun _ _ g => by
    obtain ⟨e, T, ys, e1, e2, e3, e4⟩ := g
    exact ⟨e, T, ys, e1, e2, k _ _ (fun m => (l T m _ e3).1 _ rfl) e3, e4⟩) h
theorem val_no {kvs : List (L2.Key × V)} {k : L2.Key} (h : k ∉ kvs.map (·.1)) : valV kvs k = none := by
  unfold valV
  rw [List.find?_eq_none.mpr]
  · rfl
  · intro q hq e
    exact h (List.mem_map.mpr ⟨q, hq, by simpa using e⟩)
theorem Done.put {H H' : Hp} {rs : List (Str × List Int × List V)} {kvs : List (L2.Key × V)} {r : Str × List Int × List V} {T : Addr} {ys : List V} (h : Done H H' rs kvs) (n : r.1 ∉ rs.map (·.1)) (e2 : H T = none) (e3 : H' T = some (.tup ys)) (e4 : ByKey r.2.1 r.2.2 ys) :
    Done H H' (rs ++ [r]) (putK kvs (.inr r.1) (.ref T)) := by
  have nv : valV kvs (.inr r.1) = none := val_no (by
    rw [h.keys]
    intro m
    obtain ⟨q, hq, e⟩ := List.mem_map.mp m
    exact n (List.mem_map.mpr ⟨q, hq, Sum.inr.inj e⟩))
  rw [putK_new _ nv]
  exact paired_snoc h ⟨rfl, T, ys, rfl, e2, e3, e4⟩
theorem take_kind_go {K : PySem.W.Frag} {Pt : Tb} {H : Hp} {Q : VK} {E : XK} {a ka ca dx D1 D2 : Addr} {root : V} {kvs kk ck : List (L2.Key × V)} {r : KRow} (ha : H a = some (.ins (cAt K "Schema") dx (schF D1 D2 root))) (hD : H D1 = some (.dK kvs)) (hl : kvs.length ≤ 1000) (hk : Rd H ka (.dK kk)) (hc : Rd H ca (.dK ck)) (ok : r.ok K H (keyIn kk) (keyIn ck)) (tb : Tbl Pt H)
    (q : ∀ H' T ys, Kp [D1, Pt.a] H H' → Tbl Pt H' → H T = none → H' T = some (.tup ys) → ByKey (r.fls.map (·.num)) r.xs ys → H' D1 = some (.dK (putK kvs (.inr r.name) (.ref T))) → Q .non H') : sp_Schema_take_kind K Pt [.ref a, .ref ka, .ref ca, .str r.name, .ref r.adr] H Q E := by
  unfold sp_Schema_take_kind
  exact ⟨a, ka, ca, r.name, r.adr, dx, D1, D2, root, kvs, kk, ck, r.fls, r.xs, rfl, ha, hD, hl, hk, hc, ok.name, ok.sq, ok.row, tb, q⟩
theorem take_choice_go {K : PySem.W.Frag} {Pt : Tb} {H : Hp} {Q : VK} {E : XK} {a ka ca dx D1 D2 : Addr} {root : V} {kvs kk ck : List (L2.Key × V)} {rank : Str → Nat} {N : Nat} {r : CRow} (ha : H a = some (.ins (cAt K "Schema") dx (schF D1 D2 root))) (hD : H D2 = some (.dK kvs)) (hl : kvs.length ≤ 1000) (hk : Rd H ka (.dK kk)) (hc : Rd H ca (.dK ck)) (ok : r.ok K H (keyIn kk) (keyIn ck) rank N) (tb : Tbl Pt H)
    (q : ∀ H' T ys, Kp [D2, Pt.b] H H' → Tbl Pt H' → H T = none → H' T = some (.tup ys) → ByKey (r.cs.map (·.num)) r.xs ys → H' D2 = some (.dK (putK kvs (.inr r.name) (.ref T))) → Q .non H') : sp_Schema_take_choice K Pt [.ref a, .ref ka, .ref ca, .str r.name, .ref r.adr] H Q E := by
  unfold sp_Schema_take_choice
  exact ⟨a, ka, ca, r.name, r.adr, dx, D1, D2, root, kvs, kk, ck, r.cs, r.xs, rfl, ha, hD, hl, hk, hc, ok.name, ok.sq, ok.row, tb, q⟩
end
theorem len_Schema___init__ (K : PySem.W.Frag) (Pt : Tb) : ∀ vs H Q E, sp_Schema___init__ K Pt vs H Q E → vs.length = ["self", "kinds", "choices", "root"].length := by
  intro _ _ _ _ h
  unfold sp_Schema___init__ at h
  obtain ⟨_, _, _, _, _, _, _, _, _, _, rfl, _⟩ := h
  rfl
theorem take_snoc {α : Type} {xs : List α} {i : Nat} {x : α} (e : xs[i]? = some x) : xs.take (i + 1) = xs.take i ++ [x] := by rw [List.take_add_one, e]; rfl
theorem noSq_tab {H : Hp} {P : Addr} {q : Str} (t : TabS H P q) : NoSq H P := fun u h => by
  obtain ⟨ps, h1, _⟩ := t
  rw [h1] at h
  cases h
  exact ⟨(fun _ e => by cases e), (fun _ _ e => by cases e), (fun _ e => by cases e)⟩
theorem noSq_dK {H : Hp} {D : Addr} {kvs : List (L2.Key × V)} (h1 : Rd H D (.dK kvs)) : NoSq H D := fun u h => by
  rcases h1 with h1 | ⟨o, h1⟩
  · rw [h1] at h
    cases h
    exact ⟨(fun _ e => by cases e), (fun _ _ e => by cases e), (fun _ e => by cases e)⟩
  · rw [h1] at h
    cases h
    exact ⟨(fun _ e => by cases e), (fun _ _ e => by cases e), (fun _ e => by cases e)⟩
theorem noSq_ins {H : Hp} {a C dx : Addr} {fs : List (Str × V)} (h1 : H a = some (.ins C dx fs)) : NoSq H a := fun u h => by
  rw [h1] at h
  cases h
  exact ⟨(fun _ e => by cases e), (fun _ _ e => by cases e), (fun _ e => by cases e)⟩
theorem noSq2 {H : Hp} {a b : Addr} (h1 : NoSq H a) (h2 : NoSq H b) : ∀ x ∈ [a, b], NoSq H x := fun x m => by
  rcases List.mem_cons.mp m with rfl | m
  · exact h1
  · rw [List.mem_singleton.mp m]
    exact h2
theorem not2 {x a b : Addr} (h1 : x ≠ a) (h2 : x ≠ b) : x ∉ [a, b] := fun m => by
  rcases List.mem_cons.mp m with e | m
  · exact h1 e
  · exact h2 (List.mem_singleton.mp m)
theorem Tbl.updM {Pt : Tb} {H : Hp} (t : Tbl Pt H) {D : Addr} {u o : HO} (h : H D = some u) (n1 : ∀ ps, u ≠ .tbl ps) (n2 : ∀ c z, u ≠ LamX.CodeO c z) : Tbl Pt (upd H D o) := by
  have kD : Kp [D] H (upd H D o) := Kp.refl.upd_in List.mem_cons_self
  have n : ∀ {P : Addr} {q : Str}, TabS H P q → P ∉ [D] := fun t m => tabS_ne t h n1 (List.mem_singleton.mp m).symm
  have no : ∀ a ∈ [D], ∀ c z, H a ≠ some (LamX.CodeO c z) := fun a m c z e => by
    rw [List.mem_singleton.mp m, h] at e
    exact n2 c z (Option.some.inj e)
  exact ⟨tabS_kp t.a kD (n t.a) no, tabS_kp t.b kD (n t.b) no, tabS_kp t.c kD (n t.c) no, t.ab, t.ac, t.bc⟩
theorem init_0 {K : PySem.W.Frag} {C : Addr} (O : Own K C) {Pt : Tb} {H : Hp} {D : Ends} {a ka ca dx D1 D2 : Addr} {cv root : V} {FK : List KRow} {ck : List (L2.Key × V)} (ha : H a = some (.ins (cAt K "Schema") dx (schF D1 D2 root))) (h1 : H D1 = some (.dK [])) (h2 : H D2 = some (.dK [])) (hk : H ka = some (.dK (FK.map KRow.kv))) (hc : H ca = some (.dK ck)) (d1k : D1 ≠ ka) (d1c : D1 ≠ ca) (kc : ca ≠ ka) (d2k : D2 ≠ ka)
    (lk : FK.length ≤ 100) (nk : (FK.map (·.name)).Nodup) (ok : ∀ r ∈ FK, r.ok K H (keyIn (FK.map KRow.kv)) (keyIn ck)) (tb : Tbl Pt H)
    (q : ∀ H' kvs1 u5 u6, Kp [D1, Pt.a] H H' → Tbl Pt H' → H' D1 = some (.dK kvs1) → Done H H' (FK.map KRow.row) kvs1 → b_Schema___init___1 K C Pt D [some (.ref a), some (.ref ka), some cv, some root, some (.ref ca), u5, u6] H') :
    b_Schema___init___0 K C Pt D [some (.ref a), some (.ref ka), some cv, some root, some (.ref ca), none, none] H := by
  obtain ⟨cl, n1, n2, n3, _, _⟩ := O.Schema
  unfold b_Schema___init___0
  walk_at "go"
  refine ⟨ka, .dK (FK.map KRow.kv), hk, trivial, fun od => ⟨_, rfl, ka, od, _, rfl, upd_same, ?_⟩⟩
  obtain ⟨G, hG⟩ : ∃ G, G = upd H ka (.frz od (.dK (FK.map KRow.kv))) := ⟨_, rfl⟩
  have kpE : Kp [ka] H G := by rw [hG]; exact Kp.refl.upd_in List.mem_cons_self
  have lo : ∀ b ∈ [ka], NoSq H b := fun b hb => by
    rw [List.mem_singleton.mp hb]
    exact noSq_dK (.inl hk)
  have gk : G ka = some (.frz od (.dK (FK.map KRow.kv))) := by rw [hG]; exact upd_same
  have aka : a ≠ ka := fun e => by rw [e, hk] at ha; cases ha
  have ga := kpE.at_ (fun m => aka (List.mem_singleton.mp m)) ha
  have g1 := kpE.at_ (fun m => d1k (List.mem_singleton.mp m)) h1
  have gc := kpE.at_ (fun m => kc (List.mem_singleton.mp m)) hc
  have tbG : Tbl Pt G := by rw [hG]; exact tb.updD hk
  rw [← hG]
  have ad1 : a ≠ D1 := fun e => by rw [e, h1] at ha; cases ha
  have aP := tabS_ne tbG.a ga (fun ps e => by cases e)
  have kP := tabS_ne tbG.a gk (fun ps e => by cases e)
  have cP := tabS_ne tbG.a gc (fun ps e => by cases e)
  have okG : ∀ r ∈ FK, r.ok K G (keyIn (FK.map KRow.kv)) (keyIn ck) := fun r hr => (ok r hr).kpN kpE lo
  have loG : ∀ b ∈ [D1, Pt.a], NoSq G b := noSq2 (noSq_dK (.inl g1)) (noSq_tab tbG.a)
  have nG : ∀ T, G T = none → H T = none := fun T h => by
    by_cases e : T = ka
    · rw [e, gk] at h
      cases h
    · rw [hG, upd_ne e] at h
      exact h
  refine for_it walk_items (fun i σ H' => Kp [D1, Pt.a] G H' ∧ Tbl Pt H' ∧ (∃ kvs1, H' D1 = some (.dK kvs1) ∧ Done H H' ((FK.take i).map KRow.row) kvs1 ∧ kvs1.length ≤ i) ∧ ∃ u5 u6, σ = [some (.ref a), some (.ref ka), some cv, some root, some (.ref ca), u5, u6])
    ⟨Kp.refl, tbG, ⟨[], g1, .nil, Nat.le_refl _⟩, _, _, rfl⟩ (fun i σ H' _ h => h.1.at_ (not2 d1k.symm kP) gk) ?_ (fun σ H' h => ?_)
  · rintro i x σ Ha Hb hi ⟨ka8, tba, ⟨kvs1, hD, dn, hl⟩, u5, u6, rfl⟩ hy
    obtain ⟨T, y1, y2, rfl, nT, rfl, e1, e2⟩ := hy
    rw [List.length_map] at hi
    obtain ⟨r, er⟩ : ∃ r, FK[i]? = some r := ⟨FK[i], List.getElem?_eq_getElem hi⟩
    have e1 : ((FK.map KRow.kv)[i]?.map fun kv => kV kv.1) = some y1 := e1
    have e2 : ((FK.map KRow.kv)[i]?.map Prod.snd) = some y2 := e2
    rw [List.getElem?_map, er] at e1 e2
    obtain rfl : V.str r.name = y1 := Option.some.inj e1
    obtain rfl : V.ref r.adr = y2 := Option.some.inj e2
    have kT := ka8.upd_new' (o := .tup [.str r.name, .ref r.adr]) nT
    have k0T : Kp [] Ha (upd Ha T (.tup [.str r.name, .ref r.adr])) := Kp.refl.upd_new' nT
    have hT : (upd Ha T (.tup [.str r.name, .ref r.adr])) T = some (.tup [.str r.name, .ref r.adr]) := upd_same
    have hD' := k0T.at_ List.not_mem_nil hD
    have dn' := dn.kp k0T (fun b m => nomatch m)
    have tb' := tba.kp0 k0T
    generalize upd Ha T (.tup [.str r.name, .ref r.adr]) = Hc at kT k0T hT hD' dn' tb' ⊢
    have gac := kT.at_ (not2 ad1 aP) ga
    have gkc := kT.at_ (not2 d1k.symm kP) gk
    have gcc := kT.at_ (not2 d1c.symm cP) gc
    have okr := (okG r (List.mem_of_getElem? er)).kpN kT loG
    walk_at "go"
    show sp_Schema_take_kind K Pt [.ref a, .ref ka, .ref ca, .str r.name, .ref r.adr] Hc _ _
    refine take_kind_go gac hD' (by omega) (.inr ⟨od, gkc⟩) (.inl gcc) okr tb' fun H2 T2 ys k2 tb2 nT2 hT2 bk hD2 => ?_
    have lo2 : ∀ b ∈ [D1, Pt.a], NoSq Hc b := noSq2 (noSq_dK (.inl hD')) (noSq_tab tb'.a)
    have nr : r.name ∉ ((FK.take i).map KRow.row).map (·.1) := by
      rw [List.map_map]
      have h := nodup_take nk (i := i) (x := r.name) (by rw [List.getElem?_map, er]; rfl)
      rw [← List.map_take] at h
      exact h
    refine ⟨kT.trans k2, tb2, ⟨_, hD2, ?_, by have := length_putK kvs1 (.inr r.name) (.ref T2); omega⟩, _, _, rfl⟩
    rw [take_snoc er, List.map_append]
    refine (dn'.kp k2 lo2).put (r := r.row) nr (nG T2 (kT.none_of (not2 (fun e => by rw [e, hD'] at nT2; cases nT2) (fun e => by
      obtain ⟨ps, h, _⟩ := tb'.a
      rw [← e, nT2] at h
      cases h)) nT2)) hT2 bk
  · obtain ⟨kG, tbF, ⟨kvs1, hD, dn, hl⟩, u5, u6, rfl⟩ := h
    rw [List.length_map, List.take_length] at dn
    have hkF := kG.at_ (not2 d1k.symm kP) gk
    refine ⟨hkF, ?_⟩
    have kF : Kp [D1, Pt.a] H (upd H' ka (.dK (FK.map KRow.kv))) := fun b o n hb => by
      by_cases e : b = ka
      · rw [e] at hb ⊢
        rw [hk] at hb
        cases hb
        exact upd_same
      · exact (upd_ne e).trans (kG b o n (kpE b o (fun m => e (List.mem_singleton.mp m)) hb))
    have kU : Kp [ka] H' (upd H' ka (.dK (FK.map KRow.kv))) := Kp.refl.upd_in List.mem_cons_self
    have loU : ∀ b ∈ [ka], NoSq H' b := fun b hb => by
      rw [List.mem_singleton.mp hb]
      exact noSq_dK (.inr ⟨od, hkF⟩)
    exact q _ kvs1 _ _ kF (tbF.updM hkF (fun _ e => by cases e) (fun _ _ e => by cases e)) ((upd_ne d1k).trans hD) (dn.kp kU loU)
theorem init_1 {K : PySem.W.Frag} {C : Addr} (O : Own K C) {Pt : Tb} {H : Hp} {D : Ends} {a ka ca dx D1 D2 : Addr} {cv root : V} {u5 u6 : Option V} {CK : List CRow} {kk kvs0 : List (L2.Key × V)} {rank : Str → Nat} {N : Nat} {s : Srt} (ha : H a = some (.ins (cAt K "Schema") dx (schF D1 D2 root))) (h1 : H D1 = some (.dK kvs0)) (h2 : H D2 = some (.dK [])) (hk : H ka = some (.dK kk)) (hc : H ca = some (.dK (CK.map CRow.kv))) (d1c : D1 ≠ ca) (d2k : D2 ≠ ka) (d2c : D2 ≠ ca) (kc : ca ≠ ka) (d12 : D1 ≠ D2)
    (lk : CK.length ≤ 100) (nk : (CK.map (·.name)).Nodup) (ok : ∀ r ∈ CK, r.ok K H (keyIn kk) (keyIn (CK.map CRow.kv)) rank N) (tb : Tbl Pt H) (hs : SrtV K H s root) (sok : s.ok (keyIn kk) (keyIn (CK.map CRow.kv)) 3)
    (q : ∀ H' kvs1 u5 u6, Kp [D2, Pt.b] H H' → Tbl Pt H' → H' D2 = some (.dK kvs1) → Done H H' (CK.map CRow.row) kvs1 → b_Schema___init___2 K C Pt D [some (.ref a), some (.ref ka), some cv, some root, some (.ref ca), u5, u6] H') :
    b_Schema___init___1 K C Pt D [some (.ref a), some (.ref ka), some cv, some root, some (.ref ca), u5, u6] H := by
  obtain ⟨cl, n1, n2, n3, _, _⟩ := O.Schema
  unfold b_Schema___init___1
  walk_at "go"
  refine ⟨ca, .dK (CK.map CRow.kv), hc, trivial, fun od => ⟨_, rfl, ca, od, _, rfl, upd_same, ?_⟩⟩
  obtain ⟨G, hG⟩ : ∃ G, G = upd H ca (.frz od (.dK (CK.map CRow.kv))) := ⟨_, rfl⟩
  have kpE : Kp [ca] H G := by rw [hG]; exact Kp.refl.upd_in List.mem_cons_self
  have lo : ∀ b ∈ [ca], NoSq H b := fun b hb => by
    rw [List.mem_singleton.mp hb]
    exact noSq_dK (.inl hc)
  have gf : G ca = some (.frz od (.dK (CK.map CRow.kv))) := by rw [hG]; exact upd_same
  have aca : a ≠ ca := fun e => by rw [e, hc] at ha; cases ha
  have ga := kpE.at_ (fun m => aca (List.mem_singleton.mp m)) ha
  have g1 := kpE.at_ (fun m => d2c (List.mem_singleton.mp m)) h2
  have gk := kpE.at_ (fun m => kc (List.mem_singleton.mp m).symm) hk
  have tbG : Tbl Pt G := by rw [hG]; exact tb.updD hc
  rw [← hG]
  have ad1 : a ≠ D2 := fun e => by rw [e, h2] at ha; cases ha
  have aP := tabS_ne tbG.b ga (fun ps e => by cases e)
  have cP := tabS_ne tbG.b gf (fun ps e => by cases e)
  have kP := tabS_ne tbG.b gk (fun ps e => by cases e)
  have okG : ∀ r ∈ CK, r.ok K G (keyIn kk) (keyIn (CK.map CRow.kv)) rank N := fun r hr => (ok r hr).kpN kpE lo
  have loG : ∀ b ∈ [D2, Pt.b], NoSq G b := noSq2 (noSq_dK (.inl g1)) (noSq_tab tbG.b)
  have nG : ∀ T, G T = none → H T = none := fun T h => by
    by_cases e : T = ca
    · rw [e, gf] at h
      cases h
    · rw [hG, upd_ne e] at h
      exact h
  refine for_it walk_items (fun i σ H' => Kp [D2, Pt.b] G H' ∧ Tbl Pt H' ∧ (∃ kvs1, H' D2 = some (.dK kvs1) ∧ Done H H' ((CK.take i).map CRow.row) kvs1 ∧ kvs1.length ≤ i) ∧ ∃ u5 u6, σ = [some (.ref a), some (.ref ka), some cv, some root, some (.ref ca), u5, u6])
    ⟨Kp.refl, tbG, ⟨[], g1, .nil, Nat.le_refl _⟩, _, _, rfl⟩ (fun i σ H' _ h => h.1.at_ (not2 d2c.symm cP) gf) ?_ (fun σ H' h => ?_)
  · rintro i x σ Ha Hb hi ⟨ka8, tba, ⟨kvs1, hD, dn, hl⟩, u5, u6, rfl⟩ hy
    obtain ⟨T, y1, y2, rfl, nT, rfl, e1, e2⟩ := hy
    rw [List.length_map] at hi
    obtain ⟨r, er⟩ : ∃ r, CK[i]? = some r := ⟨CK[i], List.getElem?_eq_getElem hi⟩
    have e1 : ((CK.map CRow.kv)[i]?.map fun kv => kV kv.1) = some y1 := e1
    have e2 : ((CK.map CRow.kv)[i]?.map Prod.snd) = some y2 := e2
    rw [List.getElem?_map, er] at e1 e2
    obtain rfl : V.str r.name = y1 := Option.some.inj e1
    obtain rfl : V.ref r.adr = y2 := Option.some.inj e2
    have kT := ka8.upd_new' (o := .tup [.str r.name, .ref r.adr]) nT
    have k0T : Kp [] Ha (upd Ha T (.tup [.str r.name, .ref r.adr])) := Kp.refl.upd_new' nT
    have hT : (upd Ha T (.tup [.str r.name, .ref r.adr])) T = some (.tup [.str r.name, .ref r.adr]) := upd_same
    have hD' := k0T.at_ List.not_mem_nil hD
    have dn' := dn.kp k0T (fun b m => nomatch m)
    have tb' := tba.kp0 k0T
    generalize upd Ha T (.tup [.str r.name, .ref r.adr]) = Hc at kT k0T hT hD' dn' tb' ⊢
    have gac := kT.at_ (not2 ad1 aP) ga
    have gkc := kT.at_ (not2 d2k.symm kP) gk
    have gcc := kT.at_ (not2 d2c.symm cP) gf
    have okr := (okG r (List.mem_of_getElem? er)).kpN kT loG
    walk_at "go"
    show sp_Schema_take_choice K Pt [.ref a, .ref ka, .ref ca, .str r.name, .ref r.adr] Hc _ _
    refine take_choice_go gac hD' (by omega) (.inl gkc) (.inr ⟨od, gcc⟩) okr tb' fun H2 T2 ys k2 tb2 nT2 hT2 bk hD2 => ?_
    have lo2 : ∀ b ∈ [D2, Pt.b], NoSq Hc b := noSq2 (noSq_dK (.inl hD')) (noSq_tab tb'.b)
    have nr : r.name ∉ ((CK.take i).map CRow.row).map (·.1) := by
      rw [List.map_map]
      have h := nodup_take nk (i := i) (x := r.name) (by rw [List.getElem?_map, er]; rfl)
      rw [← List.map_take] at h
      exact h
    refine ⟨kT.trans k2, tb2, ⟨_, hD2, ?_, by have := length_putK kvs1 (.inr r.name) (.ref T2); omega⟩, _, _, rfl⟩
    rw [take_snoc er, List.map_append]
    refine (dn'.kp k2 lo2).put (r := r.row) nr (nG T2 (kT.none_of (not2 (fun e => by rw [e, hD'] at nT2; cases nT2) (fun e => by
      obtain ⟨ps, h, _⟩ := tb'.b
      rw [← e, nT2] at h
      cases h)) nT2)) hT2 bk
  · obtain ⟨kG, tbF, ⟨kvs1, hD, dn, hl⟩, u5, u6, rfl⟩ := h
    rw [List.length_map, List.take_length] at dn
    have hcF := kG.at_ (not2 d2c.symm cP) gf
    refine ⟨hcF, ?_⟩
    have kF : Kp [D2, Pt.b] H (upd H' ca (.dK (CK.map CRow.kv))) := fun b o n hb => by
      by_cases e : b = ca
      · rw [e] at hb ⊢
        rw [hc] at hb
        cases hb
        exact upd_same
      · exact (upd_ne e).trans (kG b o n (kpE b o (fun m => e (List.mem_singleton.mp m)) hb))
    have kU : Kp [ca] H' (upd H' ca (.dK (CK.map CRow.kv))) := Kp.refl.upd_in List.mem_cons_self
    have loU : ∀ b ∈ [ca], NoSq H' b := fun b hb => by
      rw [List.mem_singleton.mp hb]
      exact noSq_dK (.inr ⟨od, hcF⟩)
    have tbU := tbF.updM (o := .dK (CK.map CRow.kv)) hcF (fun _ e => by cases e) (fun _ _ e => by cases e)
    have D2U := (upd_ne (o := .dK (CK.map CRow.kv)) d2c).trans hD
    have dnU := dn.kp kU loU
    obtain ⟨H5, e5⟩ : ∃ H5, H5 = upd H' ca (.dK (CK.map CRow.kv)) := ⟨_, rfl⟩
    have tbH := tb.b
    have lo5 : ∀ b ∈ [D2, Pt.b], NoSq H b := noSq2 (noSq_dK (.inl h2)) (noSq_tab tb.b)
    have hk5 := kF.at_ (not2 d2k.symm (tabS_ne tb.b hk (fun ps e => by cases e))) hk
    have hc5 := kF.at_ (not2 d2c.symm (tabS_ne tb.b hc (fun ps e => by cases e))) hc
    have hs5 := hs.kpN kF lo5
    show tSeq _ _ _ _ (upd H' ca (.dK (CK.map CRow.kv)))
    rw [← e5] at kF tbU D2U dnU hk5 hc5 hs5 ⊢
    walk_at "go"
    show sp_is_sort K 4 [.ref ka, .ref ca, root, .int 0] H5 _ _
    refine sort_go (n := 3) (.inl hk5) (.inl hc5) hs5 sok (by omega) (by omega) fun H6 k6 => ?_
    walk_at "go"
    rename_i pr npr
    have k7 : Kp [] H5 (upd H6 pr (.tup [.str "root"])) := k6.upd_new' npr
    exact q _ kvs1 _ _ (kF.trans (k7.mono fun _ m => nomatch m)) (tbU.kp0 k7) (k7.at_ List.not_mem_nil D2U) (dnU.kp k7 fun _ m => nomatch m)
theorem key_mem {kvs : List (L2.Key × V)} {z : Str} : keyIn kvs z ↔ (.inr z) ∈ kvs.map (·.1) := by
  constructor
  · rintro ⟨v, h⟩
    unfold valV at h
    cases e : kvs.find? fun kv => decide (kv.1 = .inr z) with
    | none =>
      rw [e] at h
      cases h
    | some p =>
      have h1 := List.find?_some e
      exact List.mem_map.mpr ⟨p, List.mem_of_find?_eq_some e, by simpa using h1⟩
  · intro m
    cases e : valV kvs (.inr z) with
    | some v => exact ⟨v, e⟩
    | none =>
      exfalso
      unfold valV at e
      obtain ⟨p, hp, ep⟩ := List.mem_map.mp m
      rw [Option.map_eq_none_iff, List.find?_eq_none] at e
      exact e p hp (by simp [ep])
theorem zip_at {α β : Type} {R : α → β → Prop} {f : α → Int} {xs : List β} {cs : List α} (h : Paired R cs xs) {k : Int} {x : β} (m : (k, x) ∈ (cs.map f).zip xs) : ∃ c ∈ cs, f c = k ∧ R c x := by
  induction h with
  | nil => cases m
  | cons a _ ih =>
    rw [List.map_cons, List.zip_cons_cons] at m
    rcases List.mem_cons.mp m with e | m
    · cases e
      exact ⟨_, List.mem_cons_self, rfl, a⟩
    · obtain ⟨c, hc, e, r⟩ := ih m
      exact ⟨c, List.mem_cons_of_mem _ hc, e, r⟩
theorem zip_has {α β : Type} {R : α → β → Prop} {f : α → Int} {xs : List β} {cs : List α} (h : Paired R cs xs) {c : α} (m : c ∈ cs) : ∃ x, (f c, x) ∈ (cs.map f).zip xs := by
  induction h with
  | nil => cases m
  | cons a _ ih =>
    rw [List.map_cons, List.zip_cons_cons]
    rcases List.mem_cons.mp m with e | m
    · cases e
      exact ⟨_, List.mem_cons_self⟩
    · obtain ⟨x, hx⟩ := ih m
      exact ⟨x, List.mem_cons_of_mem _ hx⟩
theorem by_head {α : Type} {R : α → V → Prop} {f : α → Int} {xs ys : List V} {cs : List α} (h : Paired R cs xs) (ne : cs ≠ []) (b : ByKey (cs.map f) xs ys) : ∃ c ∈ cs, ∃ x r, ys = x :: r ∧ R c x ∧ ∀ d ∈ cs, f c ≤ f d := by
  obtain ⟨ps, pm, rfl, pw⟩ := b
  cases ps with
  | nil =>
    have l := pm.length_eq
    cases h with
    | nil => exact absurd rfl ne
    | cons _ _ => cases l
  | cons p ps =>
    obtain ⟨k, x⟩ := p
    have m : (k, x) ∈ (cs.map f).zip xs := pm.mem_iff.mp List.mem_cons_self
    obtain ⟨c, hc, e, r⟩ := zip_at h m
    refine ⟨c, hc, x, ps.map Prod.snd, rfl, r, fun d hd => ?_⟩
    obtain ⟨y, hy⟩ := zip_has (f := f) h hd
    have hy := pm.mem_iff.mpr hy
    rcases List.mem_cons.mp hy with e2 | hy
    · cases e2
      omega
    · have := (List.pairwise_cons.mp pw).1 _ hy
      rw [e]
      exact this
theorem paired_find {α β : Type} {R : α → β → Prop} {P : β → Bool} : ∀ {xs : List α} {ys : List β} {y : β}, Paired R xs ys → ys.find? P = some y → ∃ x ∈ xs, R x y
  | _, _, _, .nil, h => by cases h
  | _, _, y, .cons (b := b) a t, h => by
    rw [List.find?_cons] at h
    cases e : P b with
    | true =>
      rw [e] at h
      cases h
      exact ⟨_, List.mem_cons_self, a⟩
    | false =>
      rw [e] at h
      obtain ⟨x, hx, r⟩ := paired_find t h
      exact ⟨x, List.mem_cons_of_mem _ hx, r⟩
theorem Done.leads {K : PySem.W.Frag} {H0 H : Hp} {nk : Str → Prop} {CK : List CRow} {kvs : List (L2.Key × V)} {rank : Str → Nat} {N : Nat} (h : Done H0 H (CK.map CRow.row) kvs) (ok : ∀ r ∈ CK, r.ok K H nk (keyIn (CK.map CRow.kv)) rank N) (z : Str) (hz : keyIn kvs z) :
    ∃ to, Leads K H kvs z to ∧ ∀ z', to = some z' → keyIn kvs z' ∧ rank z < rank z' ∧ rank z' ≤ N := by
  have ks : ∀ z', keyIn (CK.map CRow.kv) z' → keyIn kvs z' := fun z' h' => by
    rw [key_mem] at h' ⊢
    rw [h.keys]
    rw [List.map_map] at h' ⊢
    exact h'
  obtain ⟨v, hv⟩ := hz
  have hv' := hv
  unfold valV at hv
  obtain ⟨p, ep, rfl⟩ := Option.map_eq_some_iff.mp hv
  have pz : p.1 = .inr z := by simpa using List.find?_some ep
  obtain ⟨q, hq, e, T, ys, e1, e2, e3, e4⟩ := paired_find h ep
  obtain ⟨r, hr, rfl⟩ := List.mem_map.mp hq
  have rz : r.name = z := Sum.inr.inj (e.symm.trans pz)
  have okr := ok r hr
  obtain ⟨c, hc, x, rest, rfl, cv, lst⟩ := by_head okr.row.at_ okr.row.ne e4
  obtain ⟨b, rfl, hb⟩ := cv.at_
  have cok := okr.row.ok c hc
  cases es : c.s with
  | none =>
    refine ⟨none, ⟨T, b, rest, _, _, _, by rw [hv', e1], e3, hb, .inl (cv.non es)⟩, fun z' e => by cases e⟩
  | some s =>
    have sv := cv.srt s es
    by_cases isp : ∃ z', s = .pick z'
    · obtain ⟨z', rfl⟩ := isp
      have sok := cok.srt _ es
      unfold Srt.ok at sok
      refine ⟨some z', ⟨T, b, rest, _, _, _, by rw [hv', e1], e3, hb, sv⟩, fun z2 e => ?_⟩
      cases e
      have := okr.up c hc lst _ es
      rw [rz] at this
      exact ⟨ks _ sok, this⟩
    · refine ⟨none, ⟨T, b, rest, _, _, _, by rw [hv', e1], e3, hb, .inr ?_⟩, fun z' e => by cases e⟩
      cases s with
      | num _ _ => obtain ⟨a, h, g⟩ := sv; exact ⟨a, _, _, h, g, by decide +kernel⟩
      | truth => obtain ⟨a, h, g⟩ := sv; exact ⟨a, _, _, h, g, by decide +kernel⟩
      | text _ => obtain ⟨a, h, g⟩ := sv; exact ⟨a, _, _, h, g, by decide +kernel⟩
      | row _ _ => obtain ⟨a, _, h, g, _⟩ := sv; exact ⟨a, _, _, h, g, by decide +kernel⟩
      | maybe _ => obtain ⟨a, _, h, g, _⟩ := sv; exact ⟨a, _, _, h, g, by decide +kernel⟩
      | node _ => obtain ⟨a, h, g⟩ := sv; exact ⟨a, _, _, h, g, by decide +kernel⟩
      | pick z' => exact absurd ⟨z', rfl⟩ isp
theorem Leads.kpN {K : PySem.W.Frag} {H H' : Hp} {M : List Addr} {kvs : List (L2.Key × V)} {z : Str} {to : Option Str} (k : Kp M H H') (l : ∀ b ∈ M, NoSq H b) (h : Leads K H kvs z to) : Leads K H' kvs z to := by
  obtain ⟨T, c, r, num, nm, y, h1, h2, h3, h4⟩ := h
  refine ⟨T, c, r, num, nm, y, h1, k _ _ (fun m => (l T m _ h2).1 _ rfl) h2, sqT_kpN k l h3, ?_⟩
  cases to with
  | none => exact h4.imp id fun ⟨b, w, r', e, g, n⟩ => ⟨b, w, r', e, sqT_kpN k l g, n⟩
  | some z' =>
    obtain ⟨b, e, g⟩ := h4
    exact ⟨b, e, sqT_kpN k l g⟩
theorem comes_go {K : PySem.W.Frag} {H : Hp} {Q : VK} {E : XK} {a dx D1 D2 : Addr} {root : V} {kvs : List (L2.Key × V)} {z : Str} {rank : Str → Nat} {N : Nat} (ha : H a = some (.ins (cAt K "Schema") dx (schF D1 D2 root))) (hD : Rd H D2 (.dK kvs)) (hN : N ≤ 1000)
    (hw : ∀ z, keyIn kvs z → ∃ to, Leads K H kvs z to ∧ ∀ z', to = some z' → keyIn kvs z' ∧ rank z < rank z' ∧ rank z' ≤ N) (hz : keyIn kvs z) (q : ∀ H', Kp [] H H' → Q (.bl false) H') : sp_Schema_comes_back K [.ref a, .str z] H Q E := by
  unfold sp_Schema_comes_back
  exact ⟨a, z, dx, D1, D2, root, kvs, rank, N, rfl, ha, hD, hN, hw, hz, q⟩
theorem init_2 {K : PySem.W.Frag} {C : Addr} (O : Own K C) {Pt : Tb} {H H0 : Hp} {D : Ends} {a dx D1 D2 : Addr} {root : V} {u1 u2 u3 u4 u5 u6 : Option V} {CK : List CRow} {kvs : List (L2.Key × V)} {nk : Str → Prop} {rank : Str → Nat} {N : Nat} (ha : H a = some (.ins (cAt K "Schema") dx (schF D1 D2 root))) (h2 : H D2 = some (.dK kvs)) (hN : N ≤ 1000)
    (ok : ∀ r ∈ CK, r.ok K H nk (keyIn (CK.map CRow.kv)) rank N) (dn : Done H0 H (CK.map CRow.row) kvs) (q : ∀ σ H', Kp [] H H' → D.nx σ H') :
    b_Schema___init___2 K C Pt D [some (.ref a), u1, u2, u3, u4, u5, u6] H := by
  obtain ⟨cl, n1, n2, n3, _, _⟩ := O.Schema
  have ld := dn.leads ok
  unfold b_Schema___init___2
  refine ⟨D2, .dK kvs, h2, trivial, fun od => ?_⟩
  have aD : a ≠ D2 := fun e => by rw [e, h2] at ha; cases ha
  obtain ⟨G, hG⟩ : ∃ G, G = upd H D2 (.frz od (.dK kvs)) := ⟨_, rfl⟩
  have ga : G a = some (.ins (cAt K "Schema") dx (schF D1 D2 root)) := by rw [hG]; exact (upd_ne aD).trans ha
  have g2 : G D2 = some (.frz od (.dK kvs)) := by rw [hG]; exact upd_same
  rw [← hG]
  walk_at "go"
  have kpE : Kp [D2] H G := by rw [hG]; exact Kp.refl.upd_in List.mem_cons_self
  have lo : ∀ b ∈ [D2], NoSq H b := fun b hb => by
    rw [List.mem_singleton.mp hb]
    exact noSq_dK (.inl h2)
  have ldG : ∀ z, keyIn kvs z → ∃ to, Leads K G kvs z to ∧ ∀ z', to = some z' → keyIn kvs z' ∧ rank z < rank z' ∧ rank z' ≤ N := fun z hz => by
    obtain ⟨to, l, r⟩ := ld z hz
    exact ⟨to, l.kpN kpE lo, r⟩
  have ks := dn.keys
  refine ⟨D2, od, rfl, .inl ⟨kvs, g2, ?_⟩⟩
  refine for_it walk_keys (fun i σ H' => Kp [] G H' ∧ ∃ v5 v6, σ = [some (.ref a), u1, u2, u3, u4, v5, v6]) ⟨Kp.refl, _, _, rfl⟩ (fun i σ H' _ h => h.1.at_ List.not_mem_nil g2) ?_ (fun σ H' h => ?_)
  · rintro i x σ Ha Hb hi ⟨ka, v5, v6, rfl⟩ ⟨rfl, k, v, hkv, rfl⟩
    have mk : k ∈ kvs.map (·.1) := List.mem_map.mpr ⟨_, List.mem_of_getElem? hkv, rfl⟩
    obtain ⟨z, rfl⟩ : ∃ z, k = .inr z := by
      rw [ks] at mk
      obtain ⟨r, _, e⟩ := List.mem_map.mp mk
      exact ⟨_, e.symm⟩
    have gaa := ka.at_ List.not_mem_nil ga
    have gDa := ka.at_ List.not_mem_nil g2
    show gName 5 (.str z) _ _ _
    walk_at "go"
    show sp_Schema_comes_back K [.ref a, .str z] Hb _ _
    refine comes_go gaa (.inr ⟨od, gDa⟩) hN (fun z hz => by
      obtain ⟨to, l, r⟩ := ldG z hz
      exact ⟨to, l.kp0 ka, r⟩) (key_mem.mpr mk) fun H' k' => ?_
    walk_at "go"
    exact ⟨(ka.trans k').upd_new' (by assumption), _, _, rfl⟩
  · obtain ⟨kG, v5, v6, rfl⟩ := h
    refine ⟨kG.at_ List.not_mem_nil g2, q _ _ fun b o _ hb => ?_⟩
    by_cases e : b = D2
    · rw [e] at hb ⊢
      rw [h2] at hb
      cases hb
      exact upd_same
    · exact (upd_ne e).trans (kG b o List.not_mem_nil (kpE b o (fun m => e (List.mem_singleton.mp m)) hb))
theorem init_all {K : PySem.W.Frag} {C : Addr} (O : Own K C) {Pt : Tb} {H H1 : Hp} {Q : VK} {a ka ca dx D1 D2 : Addr} {cv root : V} {FK : List KRow} {CK : List CRow} {rank : Str → Nat} {N : Nat} {s : Srt} (k1 : Kp [a] H H1) (ha0 : H a = some (.ins (cAt K "Schema") dx [])) (ha : H1 a = some (.ins (cAt K "Schema") dx (schF D1 D2 root))) (h1 : H1 D1 = some (.dK [])) (h2 : H1 D2 = some (.dK [])) (hk : H1 ka = some (.dK (FK.map KRow.kv))) (hc : H1 ca = some (.dK (CK.map CRow.kv)))
    (nD1 : H D1 = none) (nD2 : H D2 = none) (d12 : D1 ≠ D2) (d1k : D1 ≠ ka) (d1c : D1 ≠ ca) (d2k : D2 ≠ ka) (d2c : D2 ≠ ca) (kc : ca ≠ ka) (lk : FK.length ≤ 100) (lc : CK.length ≤ 100) (nk : (FK.map (·.name)).Nodup) (nc : (CK.map (·.name)).Nodup)
    (okK : ∀ r ∈ FK, r.ok K H (keyIn (FK.map KRow.kv)) (keyIn (CK.map CRow.kv))) (okC : ∀ r ∈ CK, r.ok K H (keyIn (FK.map KRow.kv)) (keyIn (CK.map CRow.kv)) rank N) (hN : N ≤ 1000) (hs : SrtV K H s root) (sok : s.ok (keyIn (FK.map KRow.kv)) (keyIn (CK.map CRow.kv)) 3) (tb : Tbl Pt H)
    (q : ∀ H' D1 D2 kvs1 kvs2, Kp [a, Pt.a, Pt.b] H H' → Tbl Pt H' → H' a = some (.ins (cAt K "Schema") dx (schF D1 D2 root)) → H D1 = none → H D2 = none → D1 ≠ D2 → H' D1 = some (.dK kvs1) → H' D2 = some (.dK kvs2) →
      Done H H' (FK.map KRow.row) kvs1 → Done H H' (CK.map CRow.row) kvs2 → Q .non H') :
    b_Schema___init___0 K C Pt { nx := fun _ H' => Q .non H', rt := Q } [some (.ref a), some (.ref ka), some cv, some root, some (.ref ca), none, none] H1 := by
  have loA : ∀ b ∈ [a], NoSq H b := fun b hb => by
    rw [List.mem_singleton.mp hb]
    exact noSq_ins ha0
  have tb1 : Tbl Pt H1 := tb.kp k1 (fun m => tabS_ne tb.a ha0 (fun ps e => by cases e) (List.mem_singleton.mp m).symm) (fun m => tabS_ne tb.b ha0 (fun ps e => by cases e) (List.mem_singleton.mp m).symm) (fun m => tabS_ne tb.c ha0 (fun ps e => by cases e) (List.mem_singleton.mp m).symm) (fun b m φ e => by
    rw [List.mem_singleton.mp m, ha0] at e
    cases e)
  have up1 : ∀ {rs : List (Str × List Int × List V)} {kvs : List (L2.Key × V)} {H2 : Hp}, Done H1 H2 rs kvs → Done H H2 rs kvs := fun h => paired_imp (fun _ _ g => by
    obtain ⟨e, T, ys, e1, e2, e3⟩ := g
    refine ⟨e, T, ys, e1, ?_, e3⟩
    by_cases ea : T = a
    · rw [ea, ha] at e2
      cases e2
    · exact k1.none_of (fun m => ea (List.mem_singleton.mp m)) e2) h
  refine init_0 O ha h1 h2 hk hc d1k d1c kc d2k lk nk (fun r hr => (okK r hr).kpN k1 loA) tb1 fun H2 kvs1 u5 u6 k2 tb2 hD dn => ?_
  have lo2 : ∀ b ∈ [D1, Pt.a], NoSq H1 b := noSq2 (noSq_dK (.inl h1)) (noSq_tab tb1.a)
  have aD1 : a ≠ D1 := fun e => by rw [e, h1] at ha; cases ha
  have aD2 : a ≠ D2 := fun e => by rw [e, h2] at ha; cases ha
  have ha2 := k2.at_ (not2 aD1 (tabS_ne tb1.a ha (fun ps e => by cases e))) ha
  have h22 := k2.at_ (not2 d12.symm (tabS_ne tb1.a h2 (fun ps e => by cases e))) h2
  have hk2 := k2.at_ (not2 d1k.symm (tabS_ne tb1.a hk (fun ps e => by cases e))) hk
  have hc2 := k2.at_ (not2 d1c.symm (tabS_ne tb1.a hc (fun ps e => by cases e))) hc
  refine init_1 O ha2 hD h22 hk2 hc2 d1c d2k d2c kc d12 lc nc (fun r hr => ((okC r hr).kpN k1 loA).kpN k2 lo2) tb2 ((hs.kpN k1 loA).kpN k2 lo2) sok fun H3 kvs2 u5 u6 k3 tb3 hD3 dn3 => ?_
  have lo3 : ∀ b ∈ [D2, Pt.b], NoSq H2 b := noSq2 (noSq_dK (.inl h22)) (noSq_tab tb2.b)
  have ha3 := k3.at_ (not2 aD2 (tabS_ne tb2.b ha2 (fun ps e => by cases e))) ha2
  have hD13 := k3.at_ (not2 d12 (tabS_ne tb2.b hD (fun ps e => by cases e))) hD
  have okC3 : ∀ r ∈ CK, r.ok K H3 (keyIn (FK.map KRow.kv)) (keyIn (CK.map CRow.kv)) rank N := fun r hr => (((okC r hr).kpN k1 loA).kpN k2 lo2).kpN k3 lo3
  refine init_2 O ha3 hD3 hN okC3 dn3 fun σ H4 k4 => ?_
  have nn : ∀ T, H2 T = none → H1 T = none := fun T h => k2.none_of (not2 (fun e => by rw [e, hD] at h; cases h) (fun e => by
    obtain ⟨ps, h', _⟩ := tb2.a
    rw [← e, h] at h'
    cases h')) h
  have dn4 : Done H1 H3 (CK.map CRow.row) kvs2 := paired_imp (fun _ _ g => by
    obtain ⟨e, T, ys, e1, e2, e3⟩ := g
    exact ⟨e, T, ys, e1, nn T e2, e3⟩) dn3
  refine q H4 D1 D2 kvs1 kvs2 ?_ (tb3.kp0 k4) (k4.at_ List.not_mem_nil ha3) nD1 nD2 d12 (k4.at_ List.not_mem_nil hD13) (k4.at_ List.not_mem_nil hD3) (up1 ((dn.kp k3 lo3).kp k4 fun b m => nomatch m)) (up1 (dn4.kp k4 fun b m => nomatch m))
  intro b o n hb
  have n1 : b ≠ a := fun e => n (by rw [e]; exact List.mem_cons_self)
  have n2 : b ≠ Pt.a := fun e => n (by rw [e]; exact List.mem_cons_of_mem _ List.mem_cons_self)
  have n3 : b ≠ Pt.b := fun e => n (by rw [e]; exact List.mem_cons_of_mem _ (List.mem_cons_of_mem _ List.mem_cons_self))
  exact k4 b o List.not_mem_nil (k3 b o (not2 (ne_of_none hb nD2) n3) (k2 b o (not2 (ne_of_none hb nD1) n2) (k1 b o (fun m => n1 (List.mem_singleton.mp m)) hb)))
theorem p_Schema___init__ (K : PySem.W.Frag) (C : Addr) (O : Own K C) (Pt : Tb) (vs : List V) (H : Hp) (Q : VK) (E : XK) (h : sp_Schema___init__ K Pt vs H Q E) : t_Schema___init__ K C Pt { nx := fun _ H' => Q .non H', rt := Q } (start ["self", "kinds", "choices", "root", "some", "name", "row"] vs) H := by
  unfold sp_Schema___init__ at h
  obtain ⟨a, ka, cv, root, dx, s, FK, CK, rank, N, rfl, ha, hk, hcv, lk, lc, nk, nc, okK, okC, hN, hs, sok, tb, q⟩ := h
  obtain ⟨cl, n1, n2, n3, _, _⟩ := O.Schema
  have ha0 := ha
  rcases hcv with ⟨rfl, rfl⟩ | ⟨ca, rfl, hc, cak⟩
  · walk_at "go"
    all_goals try exact absurd rfl (by assumption)
    rename_i p3 n3' p1 n1' p2 n2' pt nt
    have e31 : p3 ≠ p1 := ne_of_none upd_same n1'
    rw [upd_ne e31.symm] at n1'
    have e12 : p1 ≠ p2 := ne_of_none upd_same n2'
    have e32 : p3 ≠ p2 := fun e => by
      rw [upd_ne e12.symm, e, upd_same] at n2'
      cases n2'
    rw [upd_ne e12.symm, upd_ne e32.symm] at n2'
    have e2t : p2 ≠ pt := ne_of_none upd_same nt
    have e1t : p1 ≠ pt := fun e => by
      rw [upd_ne e2t.symm, e, upd_same] at nt
      cases nt
    have e3t : p3 ≠ pt := fun e => by
      rw [upd_ne e2t.symm, upd_ne e1t.symm, e, upd_same] at nt
      cases nt
    rw [upd_ne e2t.symm, upd_ne e1t.symm, upd_ne e3t.symm] at nt
    have a1 := ne_of_none ha n1'
    have a2 := ne_of_none ha n2'
    have a3 := ne_of_none ha n3'
    have k1 := ne_of_none hk n1'
    have k2 := ne_of_none hk n2'
    have k3 := ne_of_none hk n3'
    have kt := ne_of_none hk nt
    have ak : a ≠ ka := fun e => by rw [e, hk] at ha; cases ha
    refine init_all (CK := []) O (a := a) (H := H) (ca := p3) ?_ ha upd_same ?_ ?_ ?_ ?_ n1' n2' e12 k1.symm e31.symm k2.symm e32.symm k3.symm lk lc nk nc okK okC hN hs sok tb q
    · exact (((((((Kp.refl.upd_new n3').upd_new n1').upd_new n2').upd_new nt).upd_in List.mem_cons_self).upd_in List.mem_cons_self).upd_in List.mem_cons_self)
    · rw [upd_ne a1.symm, upd_ne a1.symm, upd_ne a1.symm, upd_ne e1t, upd_ne e12, upd_same]
    · rw [upd_ne a2.symm, upd_ne a2.symm, upd_ne a2.symm, upd_ne e2t, upd_same]
    · rw [upd_ne ak.symm, upd_ne ak.symm, upd_ne ak.symm, upd_ne kt, upd_ne k2, upd_ne k1, upd_ne k3, hk]
    · rw [upd_ne a3.symm, upd_ne a3.symm, upd_ne a3.symm, upd_ne e3t, upd_ne e32, upd_ne e31, upd_same]
      rfl
  · walk_at "go"
    all_goals try exact absurd (by assumption) (fun e => by cases e)
    rename_i p1 n1' p2 n2' pt nt
    have e12 : p1 ≠ p2 := ne_of_none upd_same n2'
    rw [upd_ne e12.symm] at n2'
    have e2t : p2 ≠ pt := ne_of_none upd_same nt
    have e1t : p1 ≠ pt := fun e => by
      rw [upd_ne e2t.symm, e, upd_same] at nt
      cases nt
    rw [upd_ne e2t.symm, upd_ne e1t.symm] at nt
    have a1 := ne_of_none ha n1'
    have a2 := ne_of_none ha n2'
    have k1 := ne_of_none hk n1'
    have k2 := ne_of_none hk n2'
    have kt := ne_of_none hk nt
    have c1 := ne_of_none hc n1'
    have c2 := ne_of_none hc n2'
    have ct := ne_of_none hc nt
    have ak : a ≠ ka := fun e => by rw [e, hk] at ha; cases ha
    have ac : a ≠ ca := fun e => by rw [e, hc] at ha; cases ha
    refine init_all (CK := CK) O (a := a) (H := H) (ca := ca) ?_ ha upd_same ?_ ?_ ?_ ?_ n1' n2' e12 k1.symm c1.symm k2.symm c2.symm cak lk lc nk nc okK okC hN hs sok tb q
    · exact ((((((Kp.refl.upd_new n1').upd_new n2').upd_new nt).upd_in List.mem_cons_self).upd_in List.mem_cons_self).upd_in List.mem_cons_self)
    · rw [upd_ne a1.symm, upd_ne a1.symm, upd_ne a1.symm, upd_ne e1t, upd_ne e12, upd_same]
    · rw [upd_ne a2.symm, upd_ne a2.symm, upd_ne a2.symm, upd_ne e2t, upd_same]
    · rw [upd_ne ak.symm, upd_ne ak.symm, upd_ne ak.symm, upd_ne kt, upd_ne k2, upd_ne k1, hk]
    · rw [upd_ne ac.symm, upd_ne ac.symm, upd_ne ac.symm, upd_ne ct, upd_ne c2, upd_ne c1, hc]
end K02

-- imports: K02S6
/-! ## k02: the well of the draws -/
namespace K02
open PySem PySem.Spec PyProof.Rows L2 Kb
section
variable {K : PySem.W.Frag} {Q : VK} {E : XK} {H0 H H' : Hp} {S p : Addr} {n m : Nat} {o : HO} {M : List Addr}
theorem Wel.mono (w : Wel H S n) (l : n ≤ m) : Wel H S m := by
  obtain ⟨d, x, c, h, a, b, e, f⟩ := w
  exact ⟨d, x, c, h, a, b, e, by omega⟩
theorem Wel.new (w : Wel H S n) (np : H p = none) : Wel (upd H p o) S n := by
  obtain ⟨d, x, c, h, r⟩ := w
  exact ⟨d, x, c, (upd_ne (ne_of_none h np)).trans h, r⟩
theorem Wel.ne (w : Wel H S n) (np : H p = none) : p ≠ S := by
  obtain ⟨d, x, c, h, r⟩ := w
  exact (ne_of_none h np).symm
theorem Wel.off (w : Wel H S n) (np : p ≠ S) : Wel (upd H p o) S n := by
  obtain ⟨d, x, c, h, r⟩ := w
  exact ⟨d, x, c, (upd_ne np.symm).trans h, r⟩
theorem Wel.kp (w : Wel H S n) (k : Kp M H H') (nm : S ∉ M) : Wel H' S n := by
  obtain ⟨d, x, c, h, r⟩ := w
  exact ⟨d, x, c, k.at_ nm h, r⟩
theorem Wel.lst (w : Wel H S n) : ∃ xs, H S = some (.lst xs) := by
  obtain ⟨d, x, c, h, r⟩ := w
  exact ⟨_, h⟩
/-- drawing since H0: all that stood there stands, but for the well -/
def SW (H0 : Hp) (S : Addr) (n : Nat) (H : Hp) : Prop := Kp [S] H0 H ∧ Wel H S n
theorem SW.new (sc : SW H0 S n H) (np : H p = none) : SW H0 S n (upd H p o) := ⟨sc.1.upd_new' np, sc.2.new np⟩
theorem SW.mono (sc : SW H0 S n H) (l : n ≤ m) : SW H0 S m H := ⟨sc.1, sc.2.mono l⟩
theorem SW.nm (sc : SW H0 S n H) (np : H p = none) : p ∉ [S] := nm_cons (sc.2.ne np) List.not_mem_nil
theorem SW.was (sc : SW H0 S n H) (np : H p = none) : H0 p = none := sc.1.none_of (sc.nm np) np
theorem SW.upd (sc : SW H0 S n H) (np : H0 p = none) (ne : p ∉ [S]) : SW H0 S n (upd H p o) := ⟨sc.1.upd_new np, sc.2.off fun e => ne (by rw [e]; exact List.mem_cons_self)⟩
theorem SW.kp (sc : SW H0 S n H) (k : Kp [] H H') : SW H0 S n H' := ⟨sc.1.trans (k.mono fun a z => absurd z List.not_mem_nil), sc.2.kp k List.not_mem_nil⟩
theorem SW.drop (sc : SW H0 S n H) (k : Kp [p] H H') (np : H0 p = none) (ne : p ≠ S) : SW H0 S n H' := ⟨sc.1.drop k fun a z => .inr (by rw [List.mem_singleton.mp z]; exact np), sc.2.kp k (nm_cons ne.symm List.not_mem_nil)⟩
/-- a new thing at x, its dict at dx, filled -/
theorem SW.make {C x dx : Addr} {fs : List (Str × V)} (sc : SW H0 S n H) (nx : H x = none) (nd : H dx = none) (ne : dx ≠ x) (k : Kp [x] (L2.upd (L2.upd H dx (.own x)) x (.ins C dx fs)) H') : SW H0 S n H' :=
  ((sc.new nd).new ((upd_ne ne.symm).trans nx)).drop k (sc.was nx) (sc.2.ne nx)
theorem draw_go {i : Int} (sc : SW H0 S n H) (hn : n ≤ 1000000000) (h0 : 0 < i) (h1 : i < 1073741824) (q : ∀ H' r, SW H0 S (n + 1) H' → Kp [S] H H' → 0 ≤ r → r < i → Q (.int r) H') : sp_law_draw K [.ref S, .int i] H Q E := by
  unfold sp_law_draw
  exact ⟨S, i, n, rfl, sc.2, hn, h0, h1, fun H' r k st a b => q H' r ⟨sc.1.trans k, st⟩ k a b⟩
end
theorem ix_mem {α : Type} {xs : List α} {i : Int} (h0 : 0 ≤ i) (h1 : i < xs.length) : ∃ x, x ∈ xs ∧ atI xs i = some x := by
  have h : i.toNat < xs.length := by omega
  refine ⟨xs[i.toNat], List.getElem_mem h, ?_⟩
  have e : (i.toNat : Int) = i := by omega
  have := atI_nat (List.getElem?_eq_getElem h)
  rw [e] at this
  exact this
end K02
namespace K02
open PySem PySem.Spec PyProof.Rows L2 Kb
theorem len_law_well (K : PySem.W.Frag) : ∀ vs H Q E, sp_law_well K vs H Q E → vs.length = ["_law_cell"].length := by
  intro _ _ _ _ h
  unfold sp_law_well at h
  obtain ⟨_, rfl, _⟩ := h
  rfl
theorem p_law_well (K : PySem.W.Frag) (vs : List V) (H : Hp) (Q : VK) (E : XK) (h : sp_law_well K vs H Q E) : t_law_well K { nx := fun _ H' => Q .non H', rt := Q } (start ["_law_cell"] vs) H := by
  unfold sp_law_well at h
  obtain ⟨i, rfl, q⟩ := h
  walk_at "go"
  exact q _ _ (by assumption) ⟨_, _, _, upd_same, Int.emod_nonneg _ (by decide), Int.emod_lt_of_pos _ (by decide), by decide, by decide⟩
theorem len_law_draw (K : PySem.W.Frag) : ∀ vs H Q E, sp_law_draw K vs H Q E → vs.length = ["_law_well_here", "_law_many"].length := by
  intro _ _ _ _ h
  unfold sp_law_draw at h
  obtain ⟨_, _, _, rfl, _⟩ := h
  rfl
theorem p_law_draw (K : PySem.W.Frag) (vs : List V) (H : Hp) (Q : VK) (E : XK) (h : sp_law_draw K vs H Q E) : t_law_draw K { nx := fun _ H' => Q .non H', rt := Q } (start ["_law_well_here", "_law_many", "_law_found", "_law_number_here"] vs) H := by
  unfold sp_law_draw at h
  obtain ⟨S, m, n, rfl, ⟨d, mm, c, hS, m0, m1, c0, c1⟩, hn, hm0, hm1, q⟩ := h
  have fin : ∀ H' r d' c', Kp [S] H H' → H' S = some (.lst [.int d', .int mm, .int c']) → 0 ≤ c' → c' ≤ (n : Int) + 1 → Q (.int (r % m)) H' := fun H' r d' c' k h1 h2 h3 =>
    q H' _ k ⟨d', mm, c', h1, m0, m1, h2, by omega⟩ (Int.emod_nonneg _ (by omega)) (Int.emod_lt_of_pos _ hm0)
  walk_at "go"
  · exact fin _ _ _ _ (by walk_at "kp") upd_same (by omega) (by omega)
  · exact fin _ _ _ _ (by walk_at "kp") upd_same (by omega) (by omega)
end K02

/-! steps of k02: draws -/
local macro_rules | `(tactic| walk_at "sd") => `(tactic| first
  | assumption
  | (refine' K02.SW.new ?k1 ?k2; (case k2 => assumption); (case k1 => walk_at "sd"))
  | (refine' K02.SW.upd ?k1 ?k2 ?k3; (case k2 => assumption); (case k3 => assumption); (case k1 => walk_at "sd"))
  | fail)
local macro_rules | `(tactic| walk_at "tk") => `(tactic| first
  | (refine' K02.draw_go ?k1 ?k2 ?k3 ?k4 (fun H1 r1 sc1 k1 h0 h1 => ?kq); (case k1 => walk_at "sd"); (case k2 => walk_at "c"); (case k3 => walk_at "c"); (case k4 => walk_at "c"))
  | (refine' K02.ixT0_go ?k1 ?kq; (case k1 => assumption))
  | (refine' K02.ixT1_go ?k1 ?kq; (case k1 => assumption))
  | (refine' K02.ixT2_go ?k1 ?kq; (case k1 => assumption))
  | fail)
local macro_rules | `(tactic| walk_at "nm") => `(tactic| first
  | assumption
  | exact List.not_mem_nil
  | (refine' K02.SW.nm ?k1 ?k2; (case k2 => assumption); (case k1 => walk_at "sd"))
  | (refine' nm_cons ?kn ?km; (case kn => walk_at "ne"); (case km => walk_at "nm"))
  | fail)
local macro_rules | `(tactic| walk_at "go") => `(tactic| repeat' first | walk_at "tk" | walk_at "s")

-- imports: K02S6 K02L0
/-! ## k02: numbers drawn -/
namespace K02
open PySem PySem.Spec PyProof.Rows L2 Kb
theorem len_law_number (K : PySem.W.Frag) : ∀ vs H Q E, sp_law_number K vs H Q E → vs.length = ["_law_well_here"].length := by
  intro _ _ _ _ h
  unfold sp_law_number at h
  obtain ⟨_, _, rfl, _⟩ := h
  rfl
theorem p_law_number (K : PySem.W.Frag) (vs : List V) (H : Hp) (Q : VK) (E : XK) (h : sp_law_number K vs H Q E) : t_law_number K { nx := fun _ H' => Q .non H', rt := Q } (start ["_law_well_here", "_law_great", "_law_k", "_law_small"] vs) H := by
  unfold sp_law_number at h
  obtain ⟨S, n, rfl, w, hn, q⟩ := h
  have sc : SW H S n H := ⟨Kp.refl, w⟩
  walk_at "go"
  refine for_it walk_range (fun i σ H' => ∃ g : Int, ∃ u2, SW H S (n + i) H' ∧ σ = [some (.ref S), some (.int g), u2, none] ∧ 0 ≤ g ∧ g < 1000000000 ^ i) ⟨0, _, sc, rfl, by decide, by decide⟩ (fun _ _ _ _ _ => trivial) ?_ (fun σ H' h => ?_)
  · rintro i x σ Ha Hb hi ⟨g, u2, sca, rfl, g0, g1⟩ ⟨rfl, rfl⟩
    have hi6 : i < 6 := hi
    walk_at "go"
    rename_i H1 r1 sc1 k1 r0 r2
    refine ⟨_, _, sc1, rfl, ?_, ?_⟩
    · rw [show (10 : Int) ^ Int.toNat 9 = 1000000000 from by decide]
      omega
    · rw [show (10 : Int) ^ Int.toNat 9 = 1000000000 from by decide] at r2 ⊢
      rw [Int.pow_succ]
      have := Int.mul_le_mul_of_nonneg_right (show g + 1 ≤ 1000000000 ^ i by omega) (show (0 : Int) ≤ 1000000000 by decide)
      omega
  · obtain ⟨g, u2, sca, rfl, g0, g1⟩ := h
    have g2 : g < 1000000000000000000000000000000000000000000000000000000 := g1
    walk_at "go"
    rename_i H1 r1 sc1 k1 r0 r2 p np H2 r3 sc3 k3 r4 r5
    rw [show (10 : Int) ^ Int.toNat 5 = 100000 from by decide] at k3
    have pS : p ∉ [S] := sc1.nm np
    have hp : H2 p = some (.lst [V.int (r1 - 9), V.int (r1 - 9), V.int 0, V.int g, V.int (0 - g), V.int (g * 100000 + 7)]) := k3.at_ pS upd_same
    obtain ⟨x, hx, ex⟩ := ix_mem (xs := [V.int (r1 - 9), V.int (r1 - 9), V.int 0, V.int g, V.int (0 - g), V.int (g * 100000 + 7)]) r4 (by simp only [List.length_cons, List.length_nil]; omega)
    refine ixL_go (SqL.of hp) ex ?_
    have fin : ∀ i : Int, -GREAT ≤ i → i ≤ GREAT → Q (.int i) H2 := fun i l h => q _ i sc3.1 (sc3.2.mono (by show n + 6 + 1 + 1 ≤ n + 8; omega)) l h
    simp only [List.mem_cons, List.not_mem_nil, or_false] at hx
    have gg : GREAT = 999999999999999999999999999999999999999999999999999999999999 := rfl
    rcases hx with rfl | rfl | rfl | rfl | rfl | rfl <;> exact fin _ (by rw [gg]; omega) (by rw [gg]; omega)
end K02

-- imports: K02S6 K02L0
/-! ## k02: names drawn -/
namespace K02
open PySem PySem.Spec PyProof.Rows L2 Kb
def mk (l : List Nat) : Str := ⟨l.toArray⟩
theorem mk_of (z : Str) : mk z.cps.toList = z := by
  unfold mk
  rw [Array.toArray_toList]
theorem mk_list (l : List Nat) : (mk l).cps.toList = l := rfl
theorem mk_inj {l m : List Nat} (h : mk l = mk m) : l = m := by
  rw [← mk_list l, h, mk_list]
theorem mk_app (l m : List Nat) : mk l ++ mk m = mk (l ++ m) := by
  show (⟨l.toArray ++ m.toArray⟩ : Str) = ⟨(l ++ m).toArray⟩
  rw [List.append_toArray]
theorem mk_len (l : List Nat) : (mk l).length = l.length := by
  show l.toArray.size = _
  rw [List.size_toArray]
theorem cut_last (f : List Nat) (c : Nat) : cutS (mk (f ++ [c])) none (some (-1)) = mk f := by
  unfold cutS
  rw [mk_len, mk_list]
  have e1 : HT.sIx (f ++ [c]).length 0 none = 0 := rfl
  have e2 : HT.sIx (f ++ [c]).length (f ++ [c]).length (some (-1)) = f.length := by
    simp [HT.sIx]
    try omega
  rw [e1, e2]
  simp [mk]
theorem at_last {α : Type} (f : List α) (c : α) : atI (f ++ [c]) (-1) = some c := by
  have e : ixN (f.length + 1) (-1) = some f.length := by
    unfold ixN
    simp
    try omega
  simp [atI, e]
theorem cut7 (z : Str) : cutS z none (some 7) = mk (z.cps.toList.take 7) := by
  unfold cutS
  have e1 : HT.sIx z.length 0 none = 0 := rfl
  have e2 : HT.sIx z.length z.length (some 7) = min 7 z.length := HT.sIx_nat _ _ 7
  rw [e1, e2]
  unfold mk
  rw [List.drop_zero, Nat.sub_zero]
  congr 2
  by_cases h : 7 ≤ z.length
  · rw [Nat.min_eq_left h]
  · rw [Nat.min_eq_right (by omega), List.take_of_length_le (by rw [Array.length_toList]; exact Nat.le_refl _), List.take_of_length_le (by rw [Array.length_toList]; show z.length ≤ 7; omega)]
def LET : Str := "abcdefghijklmnopqrstuvwxyz"
theorem occ (k : Nat) (h : k < 26) : Builtin.Str.occurrences LET ⟨#[97 + k]⟩ 0 LET.length 1 = [k] := by
  have : ∀ k ∈ List.range 26, Builtin.Str.occurrences LET ⟨#[97 + k]⟩ 0 LET.length 1 = [k] := by decide +kernel
  exact this k (List.mem_range.mpr h)
theorem let_at (k : Nat) (h : k < 26) : atI LET.cps.toList (k : Int) = some (97 + k) := by
  have : ∀ k ∈ List.range 26, atI LET.cps.toList (k : Int) = some (97 + k) := by decide +kernel
  exact this k (List.mem_range.mpr h)
theorem sub_len {α : Type} [DecidableEq α] : ∀ {xs ys : List α}, xs.Nodup → (∀ x ∈ xs, x ∈ ys) → xs.length ≤ ys.length
  | [], _, _, _ => Nat.zero_le _
  | x :: xs, ys, nd, h => by
    rw [List.nodup_cons] at nd
    have m := h x List.mem_cons_self
    have := sub_len (xs := xs) (ys := ys.erase x) nd.2 fun y hy => by
      have ne : y ≠ x := fun e => nd.1 (e ▸ hy)
      exact (List.mem_erase_of_ne ne).mpr (h y (List.mem_cons_of_mem _ hy))
    rw [List.length_erase_of_mem m] at this
    have : 0 < ys.length := List.length_pos_of_mem m
    simp only [List.length_cons]
    omega
/-- the name after t turns of its last letter -/
def nth (f : List Nat) (c t : Nat) : Str := mk (f ++ [97 + (c + t) % 26])
theorem nth_inj {f : List Nat} {c t s : Nat} (h1 : t < 26) (h2 : s < 26) (h : nth f c t = nth f c s) : t = s := by
  have := mk_inj h
  have e := List.append_cancel_left this
  simp at e
  omega
theorem nth_many {f : List Nat} {c t : Nat} {zs : List Str} (ht : t < 26) (h : ∀ s, s ≤ t → nth f c s ∈ zs) : t + 1 ≤ zs.length := by
  have nd : ((List.range (t + 1)).map (nth f c)).Nodup := by
    rw [List.nodup_iff_pairwise_ne, List.pairwise_map]
    refine (List.pairwise_lt_range).imp_of_mem fun {a b} ha hb l e => ?_
    have h1 := List.mem_range.mp ha
    have h2 := List.mem_range.mp hb
    have := nth_inj (by omega) (by omega) e
    omega
  have := sub_len nd (ys := zs) fun x hx => by
    obtain ⟨s, hs, rfl⟩ := List.mem_map.mp hx
    exact h s (by have := List.mem_range.mp hs; omega)
  simpa using this
theorem nth_ok {f : List Nat} {c t : Nat} (h : ∀ x ∈ f, 97 ≤ x ∧ x ≤ 122) (l : f.length ≤ 7) : NameOk (nth f c t) := by
  unfold NameOk nth
  rw [mk_len, mk_list]
  refine ⟨by simp, by simp; omega, fun x hx => ?_⟩
  rcases List.mem_append.mp hx with hx | hx
  · exact h x hx
  · rw [List.mem_singleton.mp hx]
    omega
theorem name_split {z : Str} (h : NameOk z) : ∃ f c, z = nth f c 0 ∧ c < 26 ∧ f.length ≤ 7 ∧ ∀ x ∈ f, 97 ≤ x ∧ x ≤ 122 := by
  obtain ⟨h1, h2, h3⟩ := h
  have ne : z.cps.toList ≠ [] := fun e => by
    have : z.cps.toList.length = 0 := by rw [e]; rfl
    rw [Array.length_toList] at this
    have : z.length = 0 := this
    omega
  have e := List.dropLast_concat_getLast ne
  have m := h3 _ (List.getLast_mem ne)
  refine ⟨z.cps.toList.dropLast, z.cps.toList.getLast ne - 97, ?_, by omega, ?_, fun x hx => h3 x (List.dropLast_subset _ hx)⟩
  · unfold nth
    rw [show 97 + (z.cps.toList.getLast ne - 97 + 0) % 26 = z.cps.toList.getLast ne by omega, e, mk_of]
  · rw [List.length_dropLast, Array.length_toList]
    have : z.cps.size = z.length := rfl
    omega
section
variable {K : PySem.W.Frag} {D : Ends} {H : Hp} {S p : Addr} {u1 u4 u5 u7 : Option V} {zs : List Str}
theorem names_1 {z : Str} (hp : H p = some (.lst (zs.map V.str))) (hl : zs.length ≤ 9) (hz : NameOk z)
    (q : ∀ z', z' ∉ zs → NameOk z' → D.nx [some (.ref S), u1, some (.str LET), some (.ref p), u4, u5, some (.str z'), u7] (upd H p (.lst ((zs ++ [z']).map V.str)))) :
    b_law_names_1 K D [some (.ref S), u1, some (.str LET), some (.ref p), u4, u5, some (.str z), u7] H := by
  obtain ⟨f, c, rfl, hc, hf, hx⟩ := name_split hz
  unfold b_law_names_1
  refine ⟨fun m σ H' => H' = H ∧ ∃ t, m = 26 - t ∧ t < 26 ∧ (∀ s, s < t → nth f c s ∈ zs) ∧ σ = [some (.ref S), u1, some (.str LET), some (.ref p), u4, u5, some (.str (nth f c t)), u7], ⟨_, rfl, 0, rfl, by decide, fun s h => absurd h (Nat.not_lt_zero s), rfl⟩, ?_⟩
  rintro m σ H' ⟨rfl, t, rfl, ht, hs, rfl⟩
  walk_at "go"
  refine inS_go (SqL.of hp) ?_
  refine ⟨_, rfl, iteD (fun e => ?_) fun e => ?_⟩
  · have hs' : ∀ s, s ≤ t → nth f c s ∈ zs := fun s h => by
      by_cases h2 : s = t
      · rw [h2]
        exact e
      · exact hs s (by omega)
    have t2 := nth_many ht hs'
    refine ⟨_, fun σ' H' h => h, ?_⟩
    have hlen : (nth f c t).length = f.length + 1 := by
      unfold nth
      rw [mk_len]
      simp
    walk_at "go"
    refine ixS_go (c := 97 + (c + t) % 26) (by omega) (at_last _ _) ?_
    refine ⟨LET, ⟨#[97 + (c + t) % 26]⟩, (c + t) % 26, [], rfl, rfl, occ _ (by omega), ?_⟩
    walk_at "go"
    have ek : ((((c + t) % 26 : Nat) : Int) + 1) % 26 = (((c + (t + 1)) % 26 : Nat) : Int) := by omega
    rw [ek]
    refine ixS_go (c := 97 + (c + (t + 1)) % 26) (by decide) (let_at _ (by omega)) ?_
    have ec : cutS (nth f c t) none (some (-1)) ++ (⟨#[97 + (c + (t + 1)) % 26]⟩ : Str) = nth f c (t + 1) := by
      unfold nth
      rw [cut_last]
      exact mk_app f [97 + (c + (t + 1)) % 26]
    have lc : (cutS (nth f c t) none (some (-1))).length ≤ 7 := by
      unfold nth
      rw [cut_last, mk_len]
      exact hf
    refine addS_go (by show _ + 1 ≤ _; omega) ?_
    rw [ec]
    walk_at "go"
    exact ⟨26 - (t + 1), by omega, rfl, t + 1, rfl, by omega, fun s h => hs' s (by omega), rfl⟩
  · walk_at "go"
    have q' := q _ e (nth_ok hx hf)
    rw [List.map_append] at q'
    exact q'
theorem names_0 {n i : Nat} {H0 : Hp} {z : Str} (sc : SW H0 S n H) (hn : n ≤ 200000000) (hp : H p = some (.lst (zs.map V.str))) (n0 : H0 p = none) (pS : p ∉ [S]) (hl : zs.length ≤ 9) (hz : NameOk z) (hzs : ∀ z ∈ zs, NameOk z)
    (q : ∀ H' z', SW H0 S (n + 2) H' → z' ∉ zs → NameOk z' → H' p = some (.lst ((zs ++ [z']).map V.str)) → D.nx [some (.ref S), u1, some (.str LET), some (.ref p), u4, u5, some (.str z'), u7] H') :
    b_law_names_0 K D [some (.ref S), u1, some (.str LET), some (.ref p), u4, u5, some (.str z), u7] H := by
  unfold b_law_names_0
  have fin : ∀ H' z, SW H0 S (n + 2) H' → H' p = some (.lst (zs.map V.str)) → NameOk z → b_law_names_1 K D [some (.ref S), u1, some (.str LET), some (.ref p), u4, u5, some (.str z), u7] H' := fun H' z sc' hp' hz' =>
    names_1 hp' hl hz' fun z' nz oz => q _ z' (sc'.upd n0 pS) nz oz upd_same
  walk_at "go"
  rename_i p2 np2
  have hp2 := (upd_ne (o := .lst []) (ne_of_none hp np2)).trans hp
  have sc2 : SW H0 S n (upd H p2 (.lst [])) := sc.new np2
  refine neXE_go (SqL.of hp2) (SqL.of upd_same) ?_
  generalize upd H p2 (.lst []) = H2 at hp2 sc2 ⊢
  cases e : (zs.map V.str).isEmpty with
  | true =>
    walk_at "go"
    exact fin _ _ (sc2.mono (by omega)) hp2 hz
  | false =>
    have zne : zs ≠ [] := fun z0 => by
      rw [z0] at e
      cases e
    have el := List.dropLast_concat_getLast zne
    have lm := hzs _ (List.getLast_mem zne)
    generalize zs.getLast zne = l at el lm
    walk_at "go"
    · rename_i H3 r3 sc3 k3 r4 r5 c3
      have hp3 := k3.at_ pS hp2
      refine ixL_go (x := .str l) (SqL.of hp3) (by rw [← el, List.map_append]; exact at_last _ _) ?_
      obtain ⟨l1, l2, l3⟩ := lm
      walk_at "go"
      rename_i H4 r6 sc4 k4 r7 r8
      obtain ⟨k, rfl⟩ : ∃ k : Nat, r6 = (k : Int) := ⟨r6.toNat, by omega⟩
      refine ixS_go (c := 97 + k) (by decide) (let_at k (by omega)) ?_
      rw [cut7]
      refine addS_go (by rw [mk_len, List.length_take]; show _ + 1 ≤ _; omega) ?_
      rw [show mk (l.cps.toList.take 7) ++ (⟨#[97 + k]⟩ : Str) = mk (l.cps.toList.take 7 ++ [97 + k]) from mk_app _ [97 + k]]
      walk_at "go"
      refine fin _ _ (sc4.mono (by omega)) (k4.at_ pS hp3) ?_
      unfold NameOk
      rw [mk_len, mk_list, List.length_append, List.length_take]
      refine ⟨by simp, by simp; omega, fun x hx => ?_⟩
      rcases List.mem_append.mp hx with hx | hx
      · exact l3 x (List.mem_of_mem_take hx)
      · rw [List.mem_singleton.mp hx]
        omega
    · rename_i H3 r3 sc3 k3 r4 r5 c3
      exact fin _ _ (sc3.mono (by omega)) (k3.at_ pS hp2) hz
end
theorem join_cs : ∀ cs : List Nat, TL.joinL [] (cs.map fun c => [c]) = cs
  | [] => rfl
  | [_] => rfl
  | c :: d :: r => by
    have e := join_cs (d :: r)
    show [c] ++ ([] ++ TL.joinL [] ((d :: r).map fun c => [c])) = _
    rw [e]
    rfl
theorem joined (cs : List Nat) : Txt.join (PySem.Str.ofString "") (cs.map fun c => (⟨#[c]⟩ : Str)) = mk cs := by
  have e : (Txt.join (PySem.Str.ofString "") (cs.map fun c => (⟨#[c]⟩ : Str))).cps.toList = cs := by
    have e1 : TL.tl (Txt.join (PySem.Str.ofString "") (cs.map fun c => (⟨#[c]⟩ : Str))) = TL.joinL [] ((cs.map fun c => (⟨#[c]⟩ : Str)).map TL.tl) := by
      rw [TL.join_eq, TL.tl_join]
      rfl
    rw [List.map_map] at e1
    exact e1.trans (join_cs cs)
  rw [← mk_of (Txt.join _ _), e]
theorem sum_cs : ∀ cs : List Nat, ((cs.map fun c => (⟨#[c]⟩ : Str)).map (·.length)).sum = cs.length
  | [] => rfl
  | c :: r => by
    simp only [List.map_cons, List.sum_cons, List.length_cons]
    rw [sum_cs r]
    show 1 + _ = _
    omega
theorem len_law_names (K : PySem.W.Frag) : ∀ vs H Q E, sp_law_names K vs H Q E → vs.length = ["_law_well_here", "_law_many"].length := by
  intro _ _ _ _ h
  unfold sp_law_names at h
  obtain ⟨_, _, _, rfl, _⟩ := h
  rfl
theorem p_law_names (K : PySem.W.Frag) (vs : List V) (H : Hp) (Q : VK) (E : XK) (h : sp_law_names K vs H Q E) : t_law_names K { nx := fun _ H' => Q .non H', rt := Q } (start ["_law_well_here", "_law_many", "_law_letters", "_law_found", "_law_k", "_law_size", "_law_name", "_law_j"] vs) H := by
  unfold sp_law_names at h
  obtain ⟨S, n, m, rfl, w, hn, m0, m6, q⟩ := h
  have sc : SW H S n H := ⟨Kp.refl, w⟩
  walk_at "go"
  rename_i p np
  have pS := sc.nm np
  have sc0 : SW H S n (upd H p (.lst [])) := sc.new np
  refine for_it walk_range (fun i σ H' => ∃ zs u4 u5 u6 u7, SW H S (n + 11 * i) H' ∧ σ = [some (.ref S), some (.int m), some (.str LET), some (.ref p), u4, u5, u6, u7] ∧ H' p = some (.lst (zs.map V.str)) ∧ zs.length = i ∧ zs.Nodup ∧ ∀ z ∈ zs, NameOk z) ⟨[], _, _, _, _, sc0, rfl, upd_same, rfl, List.nodup_nil, fun z h => nomatch h⟩ (fun _ _ _ _ _ => trivial) ?_ (fun σ H' h => ?_)
  · rintro i x σ Ha Hb hi ⟨zs, u4, u5, u6, u7, sca, rfl, hp, hl, nd, ok⟩ ⟨rfl, rfl⟩
    have hi6 : i < 6 := by omega
    walk_at "go"
    rename_i H1 r1 sc1 k1 r0 r2 D nD
    have nDm := sc1.nm nD
    have hp1 := k1.at_ pS hp
    have pD : p ≠ D := ne_of_none hp1 nD
    refine lc_acc walk_range (fun j acc H' => SW H1 S (n + 11 * i + 1 + j) H' ∧ ∃ cs : List Nat, acc = (cs.map fun c => (⟨#[c]⟩ : Str)).map V.str ∧ cs.length = j ∧ ∀ c ∈ cs, 97 ≤ c ∧ c ≤ 122) ⟨⟨Kp.refl.upd_new nD, sc1.2.new nD⟩, [], rfl, rfl, fun y h => nomatch h⟩ (fun _ _ _ _ _ => trivial) (fun j x acc Hc Hd hj hl' hD hP hY => ?_) (fun acc Hc hl' hD hP => ?_)
    · obtain ⟨scb, cs, rfl, y1, y2⟩ := hP
      obtain ⟨rfl, rfl⟩ := hY
      refine ⟨rfl, ?_⟩
      have hj8 : j < 8 := by omega
      walk_at "go"
      rename_i H2 r3 sc2 k2 r4 r5
      obtain ⟨k, rfl⟩ : ∃ k : Nat, r3 = (k : Int) := ⟨r3.toNat, by omega⟩
      refine ixS_go (c := 97 + k) (by decide) (let_at k (by omega)) ?_
      refine acc_go hl' (by omega) (k2.at_ nDm hD) ⟨sc2.upd nD nDm, cs ++ [97 + k], by simp, by simp [y1], fun y hy => ?_⟩
      rcases List.mem_append.mp hy with hy | hy
      · exact y2 y hy
      · rw [List.mem_singleton.mp hy]
        omega
    · obtain ⟨scb, cs, rfl, y1, y2⟩ := hP
      refine ⟨_, _, cs.map fun c => ⟨#[c]⟩, rfl, rfl, .inl (SqL.of hD), ?_, ?_⟩
      · rw [sum_cs, List.length_map]
        show cs.length + cs.length * 0 ≤ 16777216
        omega
      rw [joined]
      have scc : SW H S (n + 11 * i + 9) Hc := ⟨sc1.1.trans scb.1, scb.2.mono (by omega)⟩
      refine names_0 (n := n + 11 * i + 9) (i := i) scc (by omega) (scb.1.at_ pS hp1) np pS (by omega) ?_ ok fun H' z' sc' nz oz hp' => ?_
      · unfold NameOk
        rw [mk_len, mk_list]
        exact ⟨by omega, by omega, y2⟩
      · exact ⟨zs ++ [z'], _, _, _, _, sc'.mono (by omega), rfl, hp', by simp [hl], by
          rw [List.nodup_append]
          exact ⟨nd, by simp, fun a ha b hb e => nz (by rw [← List.mem_singleton.mp hb, ← e]; exact ha)⟩, fun z hz => by
          rcases List.mem_append.mp hz with hz | hz
          · exact ok z hz
          · rw [List.mem_singleton.mp hz]
            exact oz⟩
  · obtain ⟨zs, u4, u5, u6, u7, sca, rfl, hp, hl, nd, ok⟩ := h
    walk_at "go"
    exact q _ p zs sca.1 (sca.2.mono (by omega)) np ⟨hp, by omega⟩ (by omega) nd ok
end K02

-- imports: K02S6 K02L0 K02L1 K02L2
/-! ## k02: a sort drawn -/
namespace K02
open PySem PySem.Spec PyProof.Rows L2 Kb
section
variable {K : PySem.W.Frag} {H0 H H' : Hp} {S A B p : Addr} {Q : VK} {E : XK} {n d : Nat} {zs ws : List Str}
theorem number_go (sc : SW H0 S n H) (hn : n ≤ 100000000) (q : ∀ H' i, SW H0 S (n + 8) H' → Kp [S] H H' → -GREAT ≤ i → i ≤ GREAT → Q (.int i) H') : sp_law_number K [.ref S] H Q E := by
  unfold sp_law_number
  exact ⟨S, n, rfl, sc.2, hn, fun H' i k w a b => q H' i ⟨sc.1.trans k, w⟩ k a b⟩
theorem lsort_go {deep : Int} (sc : SW H0 S n H) (hn : n + 100 * d ≤ 10000000) (AS : A ≠ S) (BS : B ≠ S) (hA : Nms H A zs) (hB : Nms H B ws) (h0 : 0 ≤ deep) (hd : deep ≤ d)
    (q : ∀ H' x s, SW H0 S (n + 30 * (d + 1)) H' → Kp [S] H H' → SrtV K H' s x → s.ok (· ∈ zs) (· ∈ ws) d → s.small → Q x H') : sp_law_sort K (d + 1) [.ref S, .ref A, .ref B, .int deep] H Q E := by
  unfold sp_law_sort
  exact ⟨S, A, B, n, deep, zs, ws, rfl, sc.2, hn, AS, BS, hA, hB, h0, hd, fun H' x s k w a b c => q H' x s ⟨sc.1.trans k, w⟩ k a b c⟩
theorem Nms.kp {M : List Addr} (h : Nms H A zs) (k : Kp M H H') (n : A ∉ M) : Nms H' A zs := ⟨k.at_ n h.1, h.2⟩
end
theorem no_law_sort (K : PySem.W.Frag) {vs : List V} {H : Hp} {Q : VK} {E : XK} (h : sp_law_sort K 0 vs H Q E) : False := by
  unfold sp_law_sort at h
  exact h
theorem len_law_sort (K : PySem.W.Frag) (n : Nat) : ∀ vs H Q E, sp_law_sort K (n + 1) vs H Q E → vs.length = ["_law_well_here", "_law_nodes", "_law_some", "_law_deep"].length := by
  intro _ _ _ _ h
  unfold sp_law_sort at h
  obtain ⟨_, _, _, _, _, _, _, rfl, _⟩ := h
  rfl
section
variable {K : PySem.W.Frag} {H0 H : Hp} {S A B : Addr} {D : Ends} {n d : Nat} {zs ws : List Str} {deep lot : Int} {lo hi : Int}
/-- what a sort drawn is -/
def SortEnd (K : PySem.W.Frag) (H0 : Hp) (S : Addr) (n d : Nat) (zs ws : List Str) (x : V) (H' : Hp) : Prop := ∃ s, SW H0 S n H' ∧ SrtV K H' s x ∧ s.ok (· ∈ zs) (· ∈ ws) d ∧ s.small
theorem srt_truth {p : Addr} (sc : SW H0 S n H) (np : H p = none) : SortEnd K H0 S n d zs ws (.ref p) (upd H p (.tup [.str "truth"])) :=
  ⟨.truth, sc.new np, ⟨p, rfl, SqT.of upd_same⟩, by unfold Srt.ok; cases d <;> trivial, trivial⟩
theorem SortEnd.mono {x : V} {m : Nat} (h : SortEnd K H0 S n d zs ws x H) (l : n ≤ m) : SortEnd K H0 S m d zs ws x H := by
  obtain ⟨s, a, b⟩ := h
  exact ⟨s, a.mono l, b⟩
theorem lsort_4 (sc : SW H0 S n H) (hn : n ≤ 10000100) (AS : A ∉ [S]) (hA : Nms H A zs) (q : ∀ x H', SortEnd K H0 S (n + 2) d zs ws x H' → D.rt x H') {u2 u5 u6 u7 : Option V} :
    b_law_sort_4 K d D [some (.ref S), some (.ref A), u2, some (.int deep), some (.int lot), u5, u6, u7] H := by
  unfold b_law_sort_4
  walk_at "go"
  · rename_i c p2 np2
    have hA2 := (upd_ne (o := .lst []) (ne_of_none hA.1 np2)).trans hA.1
    have sc2 : SW H0 S n (upd H p2 (.lst [])) := sc.new np2
    refine neXE_go (SqL.of hA2) (SqL.of upd_same) ?_
    generalize upd H p2 (.lst []) = H2 at hA2 sc2 ⊢
    cases e : (zs.map V.str).isEmpty with
    | true =>
      walk_at "go"
      exact q _ _ ((srt_truth sc2 (by assumption)).mono (by omega))
    | false =>
      have zl : 0 < (zs.map V.str).length := List.length_pos_iff.mpr fun e0 => by rw [e0] at e; cases e
      have zl2 : (zs.map V.str).length ≤ 10 := by rw [List.length_map]; exact hA.2
      repeat walk_at "s"
      show sp_law_draw K [.ref S, .int (zs.map V.str).length] H2 _ _
      refine draw_go sc2 (by omega) (by omega) (by omega) fun H3 r sc3 k3 r0 r1 => ?_
      obtain ⟨x, hx, ex⟩ := ix_mem r0 r1
      obtain ⟨z, hz, rfl⟩ := List.mem_map.mp hx
      refine ixL_go (SqL.of (k3.at_ AS hA2)) ex ?_
      walk_at "go"
      rename_i p np
      exact q _ _ ⟨.node z, (sc3.new np).mono (by omega), ⟨p, rfl, SqT.of upd_same⟩, by unfold Srt.ok; cases d <;> exact hz, trivial⟩
  · exact q _ _ ((srt_truth sc (by assumption)).mono (by omega))
theorem Srt.ok_row {nk ck : Str → Prop} {m : Int} {s : Srt} (h0 : 0 ≤ m) (h1 : m ≤ 20) (h : s.ok nk ck d) : (Srt.row m s).ok nk ck (d + 1) := by
  unfold Srt.ok
  exact ⟨h0, h1, h⟩
theorem Srt.ok_up {nk ck : Str → Prop} : ∀ {s : Srt} {d : Nat}, s.ok nk ck d → s.ok nk ck (d + 1)
  | .num _ _, d, h => by cases d <;> exact h
  | .truth, d, h => by cases d <;> exact h
  | .text _, d, h => by cases d <;> exact h
  | .node _, d, h => by cases d <;> exact h
  | .pick _, d, h => by cases d <;> exact h
  | .row _ s, 0, h => h.elim
  | .row _ s, d + 1, ⟨h0, h1, h⟩ => ⟨h0, h1, Srt.ok_up (s := s) h⟩
  | .maybe s, 0, h => h.elim
  | .maybe s, d + 1, ⟨h0, h1⟩ => ⟨Srt.ok_up (s := s) h0, h1⟩
theorem lsort_3 (sc : SW H0 S n H) (hn : n + 100 * d ≤ 10000080) (AS : A ≠ S) (BS : B ≠ S) (hA : Nms H A zs) (hB : Nms H B ws) (h0 : 0 ≤ deep) (hd : deep ≤ d) (q : ∀ x H', SortEnd K H0 S (n + 2 + 30 * d) d zs ws x H' → D.rt x H') {u5 u6 u7 : Option V} :
    b_law_sort_3 K d D [some (.ref S), some (.ref A), some (.ref B), some (.int deep), some (.int lot), u5, u6, u7] H := by
  have AS' : A ∉ [S] := fun m => AS (List.mem_singleton.mp m)
  have BS' : B ∉ [S] := fun m => BS (List.mem_singleton.mp m)
  unfold b_law_sort_3
  walk_at "go"
  · obtain ⟨e, rfl⟩ : ∃ e, d = e + 1 := ⟨d - 1, by omega⟩
    show sp_law_sort K (e + 1) [.ref S, .ref A, .ref B, .int (deep - 1)] H _ _
    refine lsort_go sc (by omega) AS BS hA hB (by omega) (by omega) fun H1 x s sc1 k1 sv sok sm => ?_
    by_cases hm : ∃ s', s = .maybe s'
    · obtain ⟨s', rfl⟩ := hm
      have sv0 := sv
      obtain ⟨a, y, rfl, ha, hs'⟩ := sv
      walk_at "go"
      rename_i p1 np1 p2 np2
      have k2 : Kp [] H1 (upd (upd H1 p1 (.tup [.str "maybe", .ref a])) p2 (.lst [.ref p1, .ref a])) := (Kp.refl.upd_new' np1).upd_new' np2
      have ha2 := k2.sqT List.not_mem_nil ha
      have hp2 : (upd (upd H1 p1 (.tup [.str "maybe", .ref a])) p2 (.lst [.ref p1, .ref a])) p2 = some (.lst [.ref p1, .ref a]) := upd_same
      generalize upd (upd H1 p1 (.tup [.str "maybe", .ref a])) p2 (.lst [.ref p1, .ref a]) = H2 at k2 ha2 hp2 ⊢
      walk_at "go"
      exact q _ _ ⟨_, (sc1.kp k2).mono (by omega), sv0.kp0 k2, Srt.ok_up sok, trivial⟩
    · obtain ⟨a, w, r, rfl, ha, hw⟩ := srt_word sv fun s' e => hm ⟨s', e⟩
      walk_at "go"
      rename_i p1 np1 p2 np2
      have k2 : Kp [] H1 (upd (upd H1 p1 (.tup [.str "maybe", .ref a])) p2 (.lst [.ref p1, .ref a])) := (Kp.refl.upd_new' np1).upd_new' np2
      have ha2 := k2.sqT List.not_mem_nil ha
      have hp1 : (upd (upd H1 p1 (.tup [.str "maybe", .ref a])) p2 (.lst [.ref p1, .ref a])) p1 = some (.tup [.str "maybe", .ref a]) := (upd_ne (ne_of_none upd_same np2)).trans upd_same
      have hp2 : (upd (upd H1 p1 (.tup [.str "maybe", .ref a])) p2 (.lst [.ref p1, .ref a])) p2 = some (.lst [.ref p1, .ref a]) := upd_same
      generalize upd (upd H1 p1 (.tup [.str "maybe", .ref a])) p2 (.lst [.ref p1, .ref a]) = H2 at k2 ha2 hp1 hp2 ⊢
      walk_at "go"
      rw [decide_eq_false hw]
      walk_at "go"
      exact q _ _ ⟨.maybe s, (sc1.kp k2).mono (by omega), ⟨p1, .ref a, rfl, SqT.of hp1, sv.kp0 k2⟩, by unfold Srt.ok; exact ⟨sok, fun s' e => hm ⟨s', e⟩⟩, trivial⟩
  · exact lsort_4 sc (by omega) AS' hA fun x H' h => q x H' (h.mono (by omega))
  · exact lsort_4 sc (by omega) AS' hA fun x H' h => q x H' (h.mono (by omega))
theorem lsort_2 (sc : SW H0 S n H) (hn : n + 100 * d ≤ 10000060) (AS : A ≠ S) (BS : B ≠ S) (hA : Nms H A zs) (hB : Nms H B ws) (h0 : 0 ≤ deep) (hd : deep ≤ d) (q : ∀ x H', SortEnd K H0 S (n + 4 + 30 * d) d zs ws x H' → D.rt x H') {u5 u6 u7 : Option V} :
    b_law_sort_2 K d D [some (.ref S), some (.ref A), some (.ref B), some (.int deep), some (.int lot), u5, u6, u7] H := by
  have AS' : A ∉ [S] := fun m => AS (List.mem_singleton.mp m)
  have BS' : B ∉ [S] := fun m => BS (List.mem_singleton.mp m)
  unfold b_law_sort_2
  walk_at "go"
  rename_i p np
  have k1 : Kp [] H (upd H p (.lst [.int 4, .int 5])) := Kp.refl.upd_new' np
  have hp : (upd H p (.lst [.int 4, .int 5])) p = some (.lst [.int 4, .int 5]) := upd_same
  generalize upd H p (.lst [.int 4, .int 5]) = H1 at k1 hp ⊢
  have sc1 := sc.kp k1
  have hA1 := hA.kp k1 List.not_mem_nil
  have hB1 := hB.kp k1 List.not_mem_nil
  refine inI_go (ns := [4, 5]) (SqL.of hp) ?_
  by_cases c : lot ∈ [4, 5]
  · rw [decide_eq_true c]
    walk_at "go"
    · rename_i c2 H2 r1 sc2 k2 r2 r3 p2 np2 H3 r4 sc3 k3 r5 r6
      have pS := sc2.nm np2
      have hp2 : H3 p2 = some (.lst [.int 0, .int 20, .int r1]) := k3.at_ pS upd_same
      obtain ⟨x, hx, ex⟩ := ix_mem (xs := [V.int 0, V.int 20, V.int r1]) r5 r6
      have hx2 : ∃ m : Int, x = .int m ∧ 0 ≤ m ∧ m ≤ 20 := by
        simp only [List.mem_cons, List.not_mem_nil, or_false] at hx
        rcases hx with rfl | rfl | rfl
        · exact ⟨_, rfl, by omega, by omega⟩
        · exact ⟨_, rfl, by omega, by omega⟩
        · exact ⟨_, rfl, by omega, by omega⟩
      obtain ⟨m, rfl, m0, m1⟩ := hx2
      refine ixL_go (SqL.of hp2) ex ?_
      walk_at "go"
      obtain ⟨e, rfl⟩ : ∃ e, d = e + 1 := ⟨d - 1, by omega⟩
      have kH : Kp [S] H1 H3 := k2.trans ((Kp.refl.upd_new' np2).trans k3)
      show sp_law_sort K (e + 1) [.ref S, .ref A, .ref B, .int (deep - 1)] H3 _ _
      refine lsort_go sc3 (by omega) AS BS (hA1.kp kH AS') (hB1.kp kH BS') (by omega) (by omega) fun H4 x s sc4 k4 sv sok sm => ?_
      walk_at "go"
      rename_i p5 np5
      exact q _ _ ⟨.row m s, (sc4.new np5).mono (by omega), ⟨p5, x, rfl, SqT.of upd_same, sv.kp0 (Kp.refl.upd_new' np5)⟩, Srt.ok_row m0 m1 sok, trivial⟩
    · exact lsort_3 sc1 (by omega) AS BS hA1 hB1 h0 hd fun x H' h => q x H' (h.mono (by omega))
  · rw [decide_eq_false c]
    walk_at "go"
    exact lsort_3 sc1 (by omega) AS BS hA1 hB1 h0 hd fun x H' h => q x H' (h.mono (by omega))
theorem lsort_1 (sc : SW H0 S n H) (hn : n + 100 * d ≤ 10000050) (AS : A ≠ S) (BS : B ≠ S) (hA : Nms H A zs) (hB : Nms H B ws) (h0 : 0 ≤ deep) (hd : deep ≤ d) (q : ∀ x H', SortEnd K H0 S (n + 6 + 30 * d) d zs ws x H' → D.rt x H') {u5 u6 u7 : Option V} :
    b_law_sort_1 K d D [some (.ref S), some (.ref A), some (.ref B), some (.int deep), some (.int lot), u5, u6, u7] H := by
  have AS' : A ∉ [S] := fun m => AS (List.mem_singleton.mp m)
  have BS' : B ∉ [S] := fun m => BS (List.mem_singleton.mp m)
  unfold b_law_sort_1
  walk_at "go"
  · rename_i c p2 np2
    have hB2 := (upd_ne (o := .lst []) (ne_of_none hB.1 np2)).trans hB.1
    have hA2 := (upd_ne (o := .lst []) (ne_of_none hA.1 np2)).trans hA.1
    have sc2 : SW H0 S n (upd H p2 (.lst [])) := sc.new np2
    refine neXE_go (SqL.of hB2) (SqL.of upd_same) ?_
    generalize upd H p2 (.lst []) = H2 at hB2 hA2 sc2 ⊢
    cases e : (ws.map V.str).isEmpty with
    | true =>
      walk_at "go"
      exact lsort_2 sc2 (by omega) AS BS ⟨hA2, hA.2⟩ ⟨hB2, hB.2⟩ h0 hd fun x H' h => q x H' (h.mono (by omega))
    | false =>
      have zl : 0 < (ws.map V.str).length := List.length_pos_iff.mpr fun e0 => by rw [e0] at e; cases e
      have zl2 : (ws.map V.str).length ≤ 10 := by rw [List.length_map]; exact hB.2
      repeat walk_at "s"
      show sp_law_draw K [.ref S, .int (ws.map V.str).length] H2 _ _
      refine draw_go sc2 (by omega) (by omega) (by omega) fun H3 r sc3 k3 r0 r1 => ?_
      obtain ⟨x, hx, ex⟩ := ix_mem r0 r1
      obtain ⟨z, hz, rfl⟩ := List.mem_map.mp hx
      refine ixL_go (SqL.of (k3.at_ BS' hB2)) ex ?_
      walk_at "go"
      rename_i p np
      exact q _ _ ⟨.pick z, (sc3.new np).mono (by omega), ⟨p, rfl, SqT.of upd_same⟩, by unfold Srt.ok; cases d <;> exact hz, trivial⟩
  · exact lsort_2 sc (by omega) AS BS hA hB h0 hd fun x H' h => q x H' (h.mono (by omega))
theorem lsort_0 (sc : SW H0 S n H) (hn : n + 100 * d ≤ 10000040) (AS : A ≠ S) (BS : B ≠ S) (hA : Nms H A zs) (hB : Nms H B ws) (h0 : 0 ≤ deep) (hd : deep ≤ d) (l1 : -GREAT ≤ lo) (l2 : lo ≤ hi) (l3 : hi ≤ GREAT) (q : ∀ x H', SortEnd K H0 S (n + 8 + 30 * d) d zs ws x H' → D.rt x H') {u7 : Option V} :
    b_law_sort_0 K d D [some (.ref S), some (.ref A), some (.ref B), some (.int deep), some (.int lot), some (.int lo), some (.int hi), u7] H := by
  have AS' : A ∉ [S] := fun m => AS (List.mem_singleton.mp m)
  have BS' : B ∉ [S] := fun m => BS (List.mem_singleton.mp m)
  unfold b_law_sort_0
  walk_at "go"
  · rename_i c p np H1 r1 sc1 k1 r2 r3
    have hp : H1 p = some (.lst [.non, .int lo]) := k1.at_ (sc.nm np) upd_same
    obtain ⟨x, hx, ex⟩ := ix_mem (xs := [V.non, V.int lo]) r2 r3
    have hx2 : ∃ o : Option Int, x = oV o ∧ (o = none ∨ o = some lo) := by
      simp only [List.mem_cons, List.not_mem_nil, or_false] at hx
      rcases hx with rfl | rfl
      · exact ⟨none, rfl, .inl rfl⟩
      · exact ⟨some lo, rfl, .inr rfl⟩
    obtain ⟨o1, rfl, ho1⟩ := hx2
    refine ixL_go (SqL.of hp) ex ?_
    walk_at "go"
    rename_i p2 np2 H2 r4 sc2 k2 r5 r6
    have hp2 : H2 p2 = some (.lst [.non, .int hi, .int lo]) := k2.at_ (sc1.nm np2) upd_same
    obtain ⟨y, hy, ey⟩ := ix_mem (xs := [V.non, V.int hi, V.int lo]) r5 r6
    have hy2 : ∃ o : Option Int, y = oV o ∧ (o = none ∨ ∃ i, o = some i ∧ lo ≤ i ∧ i ≤ hi) := by
      simp only [List.mem_cons, List.not_mem_nil, or_false] at hy
      rcases hy with rfl | rfl | rfl
      · exact ⟨none, rfl, .inl rfl⟩
      · exact ⟨some hi, rfl, .inr ⟨_, rfl, l2, Int.le_refl _⟩⟩
      · exact ⟨some lo, rfl, .inr ⟨_, rfl, Int.le_refl _, l2⟩⟩
    obtain ⟨o2, rfl, ho2⟩ := hy2
    refine ixL_go (SqL.of hp2) ey ?_
    walk_at "go"
    rename_i p3 np3
    refine q _ _ ⟨.num o1 o2, (sc2.new np3).mono (by omega), ⟨p3, rfl, SqT.of upd_same⟩, ?_, ?_, ?_⟩
    · unfold Srt.ok
      intro l h e1 e2
      rcases ho1 with rfl | rfl
      · cases e1
      · cases e1
        rcases ho2 with rfl | ⟨i, rfl, a, b⟩
        · cases e2
        · cases e2
          exact a
    · intro l e1
      rcases ho1 with rfl | rfl
      · cases e1
      · cases e1
        omega
    · intro h e2
      rcases ho2 with rfl | ⟨i, rfl, a, b⟩
      · cases e2
      · cases e2
        omega
  · rename_i c1 c2 H1 r1 sc1 k1 r2 r3 p np H2 r4 sc2 k2 r5 r6
    have hp : H2 p = some (.lst [.int 0, .int 40, .int r1]) := k2.at_ (sc1.nm np) upd_same
    obtain ⟨x, hx, ex⟩ := ix_mem (xs := [V.int 0, V.int 40, V.int r1]) r5 r6
    have hx2 : ∃ m : Int, x = .int m ∧ 0 ≤ m ∧ m ≤ 40 := by
      simp only [List.mem_cons, List.not_mem_nil, or_false] at hx
      rcases hx with rfl | rfl | rfl
      · exact ⟨_, rfl, by omega, by omega⟩
      · exact ⟨_, rfl, by omega, by omega⟩
      · exact ⟨_, rfl, by omega, by omega⟩
    obtain ⟨m, rfl, m0, m1⟩ := hx2
    refine ixL_go (SqL.of hp) ex ?_
    walk_at "go"
    rename_i p3 np3
    exact q _ _ ⟨.text m, (sc2.new np3).mono (by omega), ⟨p3, rfl, SqT.of upd_same⟩, by unfold Srt.ok; cases d <;> exact ⟨m0, m1⟩, m0, m1⟩
  · exact lsort_1 sc (by omega) AS BS hA hB h0 hd fun x H' h => q x H' (h.mono (by omega))
end
theorem p_law_sort (K : PySem.W.Frag) (n : Nat) (vs : List V) (H : Hp) (Q : VK) (E : XK) (h : sp_law_sort K (n + 1) vs H Q E) : t_law_sort K n { nx := fun _ H' => Q .non H', rt := Q } (start ["_law_well_here", "_law_nodes", "_law_some", "_law_deep", "_law_lot", "_law_low", "_law_high", "_law_inner"] vs) H := by
  unfold sp_law_sort at h
  obtain ⟨S, A, B, m, deep, zs, ws, rfl, w, hn, AS, BS, hA, hB, h0, hd, q⟩ := h
  have sc : SW H S m H := ⟨Kp.refl, w⟩
  have AS' : A ∉ [S] := fun m => AS (List.mem_singleton.mp m)
  have BS' : B ∉ [S] := fun m => BS (List.mem_singleton.mp m)
  walk_at "go"
  rename_i H1 lot sc1 k1 r0 r1
  show sp_law_number K [.ref S] H1 _ _
  refine number_go sc1 (by omega) fun H2 i sc2 k2 i1 i2 => ?_
  walk_at "go"
  show sp_law_number K [.ref S] H2 _ _
  refine number_go sc2 (by omega) fun H3 j sc3 k3 j1 j2 => ?_
  walk_at "go"
  rename_i p np
  refine sorted_go (ns := [i, j]) (SqL.of upd_same) (by show 2 < 64; decide) fun ns p2 pm pw np2 => ?_
  have two : ∃ x y, ns = [x, y] := by
    have l := pm.length_eq
    match ns, l with
    | [x, y], _ => exact ⟨x, y, rfl⟩
  obtain ⟨x, y, rfl⟩ := two
  have hx : x = i ∨ x = j := by
    have := pm.mem_iff.mp (List.mem_cons_self (a := x) (l := [y]))
    simpa using this
  have hy : y = i ∨ y = j := by
    have := pm.mem_iff.mp (List.mem_cons_of_mem x (List.mem_cons_self (a := y) (l := [])))
    simpa using this
  have hxy : x ≤ y := by
    have := (List.pairwise_cons.mp pw).1 y List.mem_cons_self
    exact this
  have kk : Kp [] H3 (upd (upd H3 p (.lst [.int i, .int j])) p2 (.lst [.int x, .int y])) := (Kp.refl.upd_new' np).upd_new' np2
  have hp2 : (upd (upd H3 p (.lst [.int i, .int j])) p2 (.lst [.int x, .int y])) p2 = some (.lst [.int x, .int y]) := upd_same
  show gUnl K 2 (gCons (gName 5) (gCons (gName 6) gNil)) (V.ref p2) _ (upd (upd H3 p (.lst [.int i, .int j])) p2 (.lst [.int x, .int y])) _
  generalize upd (upd H3 p (.lst [.int i, .int j])) p2 (.lst [.int x, .int y]) = H4 at kk hp2 ⊢
  have sc4 := sc3.kp kk
  have kH : Kp [S] H H4 := sc4.1
  refine ⟨p2, _, rfl, SqL.of hp2, rfl, ?_⟩
  walk_at "go"
  refine lsort_0 sc4 (by omega) AS BS (hA.kp kH AS') (hB.kp kH BS') h0 hd (by rcases hx with rfl | rfl <;> assumption) hxy (by rcases hy with rfl | rfl <;> assumption) fun v H5 h => ?_
  obtain ⟨s, sc5, sv, sok, sm⟩ := h
  exact q _ v s sc5.1 (sc5.2.mono (by omega)) sv sok sm
end K02

-- imports: K02S6 K02L0 K02L1 K02L2 K02L3
/-! ## k02: a default drawn -/
namespace K02
open PySem PySem.Spec PyProof.Rows L2 Kb
section
variable {K : PySem.W.Frag} {H H' : Hp} {a S : Addr} {xs : List V} {M : List Addr} {n : Nat}
/-- no tuple stands at b -/
def NoT (H : Hp) (b : Addr) : Prop := ∀ u, H b = some u → (∀ xs, u ≠ .tup xs) ∧ ∀ o xs, u ≠ .frz o (.tup xs)
theorem sqT_kpT (k : Kp M H H') (l : ∀ b ∈ M, NoT H b) (h : SqT K H a xs) : SqT K H' a xs := by
  rcases h with (h | ⟨o, h⟩) | h
  · exact .inl (.inl (k _ _ (fun z => (l a z _ h).1 _ rfl) h))
  · exact .inl (.inr ⟨o, k _ _ (fun z => (l a z _ h).2 _ _ rfl) h⟩)
  · exact .inr h
theorem SrtV.kpT (k : Kp M H H') (l : ∀ b ∈ M, NoT H b) : ∀ {s : Srt} {x : V}, SrtV K H s x → SrtV K H' s x
  | .num _ _, _, ⟨a, h, g⟩ => ⟨a, h, sqT_kpT k l g⟩
  | .truth, _, ⟨a, h, g⟩ => ⟨a, h, sqT_kpT k l g⟩
  | .text _, _, ⟨a, h, g⟩ => ⟨a, h, sqT_kpT k l g⟩
  | .row _ _, _, ⟨a, y, h, g, r⟩ => ⟨a, y, h, sqT_kpT k l g, r.kpT k l⟩
  | .maybe _, _, ⟨a, y, h, g, r⟩ => ⟨a, y, h, sqT_kpT k l g, r.kpT k l⟩
  | .node _, _, ⟨a, h, g⟩ => ⟨a, h, sqT_kpT k l g⟩
  | .pick _, _, ⟨a, h, g⟩ => ⟨a, h, sqT_kpT k l g⟩
theorem DfOk.kpT (k : Kp M H H') (l : ∀ b ∈ M, NoT H b) : ∀ {s : Srt} {v : V}, DfOk K H s v → DfOk K H' s v
  | .num _ _, _, h => h
  | .truth, _, h => h
  | .text _, _, h => h
  | .row _ _, _, ⟨a, e, h⟩ => ⟨a, e, sqT_kpT k l h⟩
  | .maybe _, _, h => h
  | .node _, _, h => h
  | .pick _, _, h => h
theorem FldV.kpT {f : Fld} {x : V} (k : Kp M H H') (l : ∀ b ∈ M, NoT H b) (h : FldV K H f x) : FldV K H' f x := by
  obtain ⟨a, e, g⟩ := h.at_
  exact ⟨⟨a, e, sqT_kpT k l g⟩, h.srt.kpT k l, fun v e => (h.dfl v e).kpT k l⟩
theorem CseV.kpT {f : Cse} {x : V} (k : Kp M H H') (l : ∀ b ∈ M, NoT H b) (h : CseV K H f x) : CseV K H' f x := by
  obtain ⟨a, e, g⟩ := h.at_
  exact ⟨⟨a, e, sqT_kpT k l g⟩, fun s e => (h.srt s e).kpT k l, h.non⟩
theorem noT_lst {b : Addr} {xs : List V} (h : H b = some (.lst xs)) : NoT H b := fun u e => by
  rw [h] at e
  cases e
  exact ⟨(fun _ e => by cases e), fun _ _ e => by cases e⟩
theorem noT_none {b : Addr} (h : H b = none) : NoT H b := fun u e => by
  rw [h] at e
  cases e
theorem Wel.noT (w : Wel H S n) : ∀ b ∈ [S], NoT H b := fun b m => by
  obtain ⟨_, e⟩ := w.lst
  rw [List.mem_singleton.mp m]
  exact noT_lst e
end
theorem len_law_left (K : PySem.W.Frag) : ∀ vs H Q E, sp_law_left K vs H Q E → vs.length = ["_law_well_here", "_law_of"].length := by
  intro _ _ _ _ h
  unfold sp_law_left at h
  obtain ⟨_, _, _, _, rfl, _⟩ := h
  rfl
section
variable {K : PySem.W.Frag} {H0 H : Hp} {S a : Addr} {D : Ends} {n : Nat} {s : Srt}
/-- what is left of a default drawn -/
def LeftEnd (K : PySem.W.Frag) (H0 : Hp) (S : Addr) (n : Nat) (s : Srt) (x : V) (H' : Hp) : Prop := ∃ p ls, x = .ref p ∧ SW H0 S n H' ∧ SqT K H' p ls ∧ (ls = [] ∨ ∃ v, ls = [v] ∧ DfOk K H' s v)
theorem cut_le (z : Str) (lo hi : Option Int) : (cutS z lo hi).length ≤ z.length := by
  unfold cutS
  show (List.toArray _).size ≤ z.cps.size
  rw [List.size_toArray, List.length_take, List.length_drop, Array.length_toList]
  omega
theorem cut_to {m : Nat} (z : Str) : (cutS z none (some (m : Int))).length ≤ m := by
  unfold cutS
  show (List.toArray _).size ≤ m
  rw [List.size_toArray, List.length_take, HT.sIx_nat, show HT.sIx z.length 0 none = 0 from rfl]
  omega
theorem mk3 (v1 v2 v3 : V) : mergeK [] [((.inr "truth" : L2.Key), v1), (.inr "text", v2), (.inr "row", v3)] = [(.inr "truth", v1), (.inr "text", v2), (.inr "row", v3)] := rfl
theorem left_2 {w : Str} {r : List V} {at_ : Int} {word : Str} (sc : SW H0 S n H) (hx : SqT K H a (.str w :: r)) (sv : SrtV K H s (.ref a)) (sm : s.small) (hl : word.length ≤ 60) (nn : ∀ lo hi, s ≠ .num lo hi) (nd : ∀ k, s ≠ .node k) (np : ∀ k, s ≠ .pick k) (q : ∀ x H', LeftEnd K H0 S n s x H' → D.rt x H') {u2 u3 u4 u5 u6 u9 : Option V} :
    b_law_left_2 K D [some (.ref S), some (.ref a), u2, u3, u4, u5, u6, some (.int at_), some (.str word), u9] H := by
  unfold b_law_left_2
  cases s with
  | num lo hi => exact absurd rfl (nn lo hi)
  | node k => exact absurd rfl (nd k)
  | pick k => exact absurd rfl (np k)
  | truth =>
    obtain ⟨a', e, ha⟩ := sv
    cases e
    walk_at "go"
    rename_i p np
    have k1 : Kp [] H (upd H p (.dK [])) := Kp.refl.upd_new' np
    have hp : (upd H p (.dK [])) p = some (.dK []) := upd_same
    generalize upd H p (.dK []) = H1 at k1 hp ⊢
    have ha1 := k1.sqT List.not_mem_nil ha
    have sc1 := sc.kp k1
    walk_at "go"
    all_goals first
      | exact absurd (by assumption) (by decide +kernel)
      | skip
    rename_i c p3 np3
    have p3p : p ≠ p3 := ne_of_none hp np3
    refine (show _ ∧ _ from ⟨(upd_ne p3p).trans hp, [((.inr "truth" : L2.Key), .bl (decide (at_ % 2 = 0))), (.inr "text", (.str "")), (.inr "row", .ref p3)], rfl, (show 3 ≤ 15 by decide), ?_⟩)
    rw [mk3]
    have k3 : Kp [p] H1 (upd (upd H1 p3 (.tup [])) p (.dK [((.inr "truth" : L2.Key), .bl (decide (at_ % 2 = 0))), (.inr "text", (.str "")), (.inr "row", .ref p3)])) := (Kp.refl.upd_new' np3).upd_in List.mem_cons_self
    have hp3 : (upd (upd H1 p3 (.tup [])) p (.dK [((.inr "truth" : L2.Key), .bl (decide (at_ % 2 = 0))), (.inr "text", (.str "")), (.inr "row", .ref p3)])) p = some (.dK [((.inr "truth" : L2.Key), .bl (decide (at_ % 2 = 0))), (.inr "text", (.str "")), (.inr "row", .ref p3)]) := upd_same
    have h33 : (upd (upd H1 p3 (.tup [])) p (.dK [((.inr "truth" : L2.Key), .bl (decide (at_ % 2 = 0))), (.inr "text", (.str "")), (.inr "row", .ref p3)])) p3 = some (.tup []) := (upd_ne p3p.symm).trans upd_same
    generalize upd (upd H1 p3 (.tup [])) p (.dK [((.inr "truth" : L2.Key), .bl (decide (at_ % 2 = 0))), (.inr "text", (.str "")), (.inr "row", .ref p3)]) = H4 at k3 hp3 h33 ⊢
    have npS := sc.nm np
    have sc4 : SW H0 S n H4 := sc1.drop k3 (sc.was np) (sc.2.ne np)
    have k4 : Kp [] H H4 := k1.drop k3 fun a m => .inr (by rw [List.mem_singleton.mp m]; exact np)
    have ha4 := k4.sqT List.not_mem_nil ha
    refine ⟨p, rfl, .inl ⟨_, .inl hp3⟩, ?_⟩
    walk_at "go"
    refine ⟨_, DGet.k (k := .inr "truth") hp3, ?_⟩
    rw [show valV [((.inr "truth" : L2.Key), V.bl (decide (at_ % 2 = 0))), (.inr "text", (.str "")), (.inr "row", .ref p3)] (.inr "truth") = some (.bl (decide (at_ % 2 = 0))) from rfl]
    walk_at "go"
    rename_i p5 np5
    exact q _ _ ⟨p5, _, rfl, sc4.new np5, SqT.of upd_same, .inr ⟨_, rfl, ⟨_, rfl⟩⟩⟩
  | text m =>
    obtain ⟨a', e, ha⟩ := sv
    obtain ⟨m0, m1⟩ := sm
    obtain ⟨m, rfl⟩ : ∃ k : Nat, m = (k : Int) := ⟨m.toNat, by omega⟩
    cases e
    walk_at "go"
    rename_i p np
    have k1 : Kp [] H (upd H p (.dK [])) := Kp.refl.upd_new' np
    have hp : (upd H p (.dK [])) p = some (.dK []) := upd_same
    generalize upd H p (.dK []) = H1 at k1 hp ⊢
    have ha1 := k1.sqT List.not_mem_nil ha
    have sc1 := sc.kp k1
    walk_at "go"
    all_goals first
      | exact absurd (by assumption) (by decide +kernel)
      | skip
    rename_i c p3 np3
    have p3p : p ≠ p3 := ne_of_none hp np3
    refine (show _ ∧ _ from ⟨(upd_ne p3p).trans hp, [((.inr "truth" : L2.Key), .bl (decide (at_ % 2 = 0))), (.inr "text", (.str (cutS word none (some (m : Int))))), (.inr "row", .ref p3)], rfl, (show 3 ≤ 15 by decide), ?_⟩)
    rw [mk3]
    have k3 : Kp [p] H1 (upd (upd H1 p3 (.tup [])) p (.dK [((.inr "truth" : L2.Key), .bl (decide (at_ % 2 = 0))), (.inr "text", (.str (cutS word none (some (m : Int))))), (.inr "row", .ref p3)])) := (Kp.refl.upd_new' np3).upd_in List.mem_cons_self
    have hp3 : (upd (upd H1 p3 (.tup [])) p (.dK [((.inr "truth" : L2.Key), .bl (decide (at_ % 2 = 0))), (.inr "text", (.str (cutS word none (some (m : Int))))), (.inr "row", .ref p3)])) p = some (.dK [((.inr "truth" : L2.Key), .bl (decide (at_ % 2 = 0))), (.inr "text", (.str (cutS word none (some (m : Int))))), (.inr "row", .ref p3)]) := upd_same
    have h33 : (upd (upd H1 p3 (.tup [])) p (.dK [((.inr "truth" : L2.Key), .bl (decide (at_ % 2 = 0))), (.inr "text", (.str (cutS word none (some (m : Int))))), (.inr "row", .ref p3)])) p3 = some (.tup []) := (upd_ne p3p.symm).trans upd_same
    generalize upd (upd H1 p3 (.tup [])) p (.dK [((.inr "truth" : L2.Key), .bl (decide (at_ % 2 = 0))), (.inr "text", (.str (cutS word none (some (m : Int))))), (.inr "row", .ref p3)]) = H4 at k3 hp3 h33 ⊢
    have npS := sc.nm np
    have sc4 : SW H0 S n H4 := sc1.drop k3 (sc.was np) (sc.2.ne np)
    have k4 : Kp [] H H4 := k1.drop k3 fun a m => .inr (by rw [List.mem_singleton.mp m]; exact np)
    have ha4 := k4.sqT List.not_mem_nil ha
    refine ⟨p, rfl, .inl ⟨_, .inl hp3⟩, ?_⟩
    walk_at "go"
    refine ⟨_, DGet.k (k := .inr "text") hp3, ?_⟩
    rw [show valV [((.inr "truth" : L2.Key), V.bl (decide (at_ % 2 = 0))), (.inr "text", (.str (cutS word none (some (m : Int))))), (.inr "row", .ref p3)] (.inr "text") = some (.str (cutS word none (some (m : Int)))) from rfl]
    walk_at "go"
    rename_i p5 np5
    exact q _ _ ⟨p5, _, rfl, sc4.new np5, SqT.of upd_same, .inr ⟨_, rfl, ⟨_, rfl, by have := cut_to (m := m) word; omega, by have := cut_le word none (some (m : Int)); omega⟩⟩⟩
  | row m s' =>
    obtain ⟨a', y, e, ha, hs'⟩ := sv
    cases e
    walk_at "go"
    rename_i p np
    have k1 : Kp [] H (upd H p (.dK [])) := Kp.refl.upd_new' np
    have hp : (upd H p (.dK [])) p = some (.dK []) := upd_same
    generalize upd H p (.dK []) = H1 at k1 hp ⊢
    have ha1 := k1.sqT List.not_mem_nil ha
    have sc1 := sc.kp k1
    walk_at "go"
    all_goals first
      | exact absurd (by assumption) (by decide +kernel)
      | skip
    rename_i c p3 np3
    have p3p : p ≠ p3 := ne_of_none hp np3
    refine (show _ ∧ _ from ⟨(upd_ne p3p).trans hp, [((.inr "truth" : L2.Key), .bl (decide (at_ % 2 = 0))), (.inr "text", (.str "")), (.inr "row", .ref p3)], rfl, (show 3 ≤ 15 by decide), ?_⟩)
    rw [mk3]
    have k3 : Kp [p] H1 (upd (upd H1 p3 (.tup [])) p (.dK [((.inr "truth" : L2.Key), .bl (decide (at_ % 2 = 0))), (.inr "text", (.str "")), (.inr "row", .ref p3)])) := (Kp.refl.upd_new' np3).upd_in List.mem_cons_self
    have hp3 : (upd (upd H1 p3 (.tup [])) p (.dK [((.inr "truth" : L2.Key), .bl (decide (at_ % 2 = 0))), (.inr "text", (.str "")), (.inr "row", .ref p3)])) p = some (.dK [((.inr "truth" : L2.Key), .bl (decide (at_ % 2 = 0))), (.inr "text", (.str "")), (.inr "row", .ref p3)]) := upd_same
    have h33 : (upd (upd H1 p3 (.tup [])) p (.dK [((.inr "truth" : L2.Key), .bl (decide (at_ % 2 = 0))), (.inr "text", (.str "")), (.inr "row", .ref p3)])) p3 = some (.tup []) := (upd_ne p3p.symm).trans upd_same
    generalize upd (upd H1 p3 (.tup [])) p (.dK [((.inr "truth" : L2.Key), .bl (decide (at_ % 2 = 0))), (.inr "text", (.str "")), (.inr "row", .ref p3)]) = H4 at k3 hp3 h33 ⊢
    have npS := sc.nm np
    have sc4 : SW H0 S n H4 := sc1.drop k3 (sc.was np) (sc.2.ne np)
    have k4 : Kp [] H H4 := k1.drop k3 fun a m => .inr (by rw [List.mem_singleton.mp m]; exact np)
    have ha4 := k4.sqT List.not_mem_nil ha
    refine ⟨p, rfl, .inl ⟨_, .inl hp3⟩, ?_⟩
    walk_at "go"
    refine ⟨_, DGet.k (k := .inr "row") hp3, ?_⟩
    rw [show valV [((.inr "truth" : L2.Key), V.bl (decide (at_ % 2 = 0))), (.inr "text", (.str "")), (.inr "row", .ref p3)] (.inr "row") = some (.ref p3) from rfl]
    walk_at "go"
    rename_i p5 np5
    exact q _ _ ⟨p5, _, rfl, sc4.new np5, SqT.of upd_same, .inr ⟨_, rfl, ⟨p3, rfl, SqT.of ((upd_ne (ne_of_none h33 np5)).trans h33)⟩⟩⟩
  | maybe s' =>
    obtain ⟨a', y, e, ha, hs'⟩ := sv
    cases e
    walk_at "go"
    rename_i p np
    have k1 : Kp [] H (upd H p (.dK [])) := Kp.refl.upd_new' np
    have hp : (upd H p (.dK [])) p = some (.dK []) := upd_same
    generalize upd H p (.dK []) = H1 at k1 hp ⊢
    have ha1 := k1.sqT List.not_mem_nil ha
    have sc1 := sc.kp k1
    walk_at "go"
    all_goals first
      | exact absurd (by assumption) (by decide +kernel)
      | skip
    rename_i c p3 np3
    have p3p : p ≠ p3 := ne_of_none hp np3
    refine (show _ ∧ _ from ⟨(upd_ne p3p).trans hp, [((.inr "truth" : L2.Key), .bl (decide (at_ % 2 = 0))), (.inr "text", (.str "")), (.inr "row", .ref p3)], rfl, (show 3 ≤ 15 by decide), ?_⟩)
    rw [mk3]
    have k3 : Kp [p] H1 (upd (upd H1 p3 (.tup [])) p (.dK [((.inr "truth" : L2.Key), .bl (decide (at_ % 2 = 0))), (.inr "text", (.str "")), (.inr "row", .ref p3)])) := (Kp.refl.upd_new' np3).upd_in List.mem_cons_self
    have hp3 : (upd (upd H1 p3 (.tup [])) p (.dK [((.inr "truth" : L2.Key), .bl (decide (at_ % 2 = 0))), (.inr "text", (.str "")), (.inr "row", .ref p3)])) p = some (.dK [((.inr "truth" : L2.Key), .bl (decide (at_ % 2 = 0))), (.inr "text", (.str "")), (.inr "row", .ref p3)]) := upd_same
    have h33 : (upd (upd H1 p3 (.tup [])) p (.dK [((.inr "truth" : L2.Key), .bl (decide (at_ % 2 = 0))), (.inr "text", (.str "")), (.inr "row", .ref p3)])) p3 = some (.tup []) := (upd_ne p3p.symm).trans upd_same
    generalize upd (upd H1 p3 (.tup [])) p (.dK [((.inr "truth" : L2.Key), .bl (decide (at_ % 2 = 0))), (.inr "text", (.str "")), (.inr "row", .ref p3)]) = H4 at k3 hp3 h33 ⊢
    have npS := sc.nm np
    have sc4 : SW H0 S n H4 := sc1.drop k3 (sc.was np) (sc.2.ne np)
    have k4 : Kp [] H H4 := k1.drop k3 fun a m => .inr (by rw [List.mem_singleton.mp m]; exact np)
    have ha4 := k4.sqT List.not_mem_nil ha
    refine ⟨p, rfl, .inl ⟨_, .inl hp3⟩, ?_⟩
    walk_at "go"
    refine ⟨_, DGet.k (k := .inr "maybe") hp3, ?_⟩
    rw [show valV [((.inr "truth" : L2.Key), V.bl (decide (at_ % 2 = 0))), (.inr "text", (.str "")), (.inr "row", .ref p3)] (.inr "maybe") = none from rfl]
    walk_at "go"
    rename_i p5 np5
    exact q _ _ ⟨p5, _, rfl, sc4.new np5, SqT.of upd_same, .inr ⟨_, rfl, rfl⟩⟩
theorem left_1 {w : Str} {r : List V} (sc : SW H0 S n H) (hn : n ≤ 100000010) (hx : SqT K H a (.str w :: r)) (sv : SrtV K H s (.ref a)) (sm : s.small) (nn : ∀ lo hi, s ≠ .num lo hi) (nd : ∀ k, s ≠ .node k) (np : ∀ k, s ≠ .pick k) (q : ∀ x H', LeftEnd K H0 S (n + 2) s x H' → D.rt x H') {u2 u3 u4 u5 u6 u7 u8 u9 : Option V} :
    b_law_left_1 K D [some (.ref S), some (.ref a), u2, u3, u4, u5, u6, u7, u8, u9] H := by
  unfold b_law_left_1
  show rMulX K (.str " !\"'()-=[]\\az09~") (.int 3) H _
  refine .inr (.inl ⟨_, 3, rfl, rfl, by decide, by decide, by decide +kernel, by decide +kernel, ?_⟩)
  have lz : (⟨(List.replicate (Int.toNat 3) (" !\"'()-=[]\\az09~" : Str).cps).foldl (· ++ ·) #[]⟩ : Str).length ≤ 60 := by decide +kernel
  generalize (⟨(List.replicate (Int.toNat 3) (" !\"'()-=[]\\az09~" : Str).cps).foldl (· ++ ·) #[]⟩ : Str) = T at lz ⊢
  walk_at "go"
  rename_i H1 r1 sc1 k1 r2 r3 H2 r4 sc2 k2 r5 r6
  have kk := k1.trans k2
  have lc := cut_le T (some r1) (some (r1 + r4))
  generalize cutS T (some r1) (some (r1 + r4)) = word at lc ⊢
  have hx2 := sqT_kpT kk sc.2.noT hx
  have sv2 := sv.kpT kk sc.2.noT
  walk_at "go"
  exact left_2 sc2 hx2 sv2 sm (by omega) nn nd np fun x H' h => q x H' h
theorem srt_nn : ∀ {s : Srt}, SrtV K H s (.ref a) → (∀ lo hi, s ≠ .num lo hi) → ∃ w r, SqT K H a (.str w :: r) ∧ w ≠ "number"
  | .num _ _, _, n => absurd rfl (n _ _)
  | .truth, ⟨a, h, g⟩, _ => by cases h; exact ⟨_, _, g, by decide +kernel⟩
  | .text _, ⟨a, h, g⟩, _ => by cases h; exact ⟨_, _, g, by decide +kernel⟩
  | .row _ _, ⟨a, _, h, g, _⟩, _ => by cases h; exact ⟨_, _, g, by decide +kernel⟩
  | .maybe _, ⟨a, _, h, g, _⟩, _ => by cases h; exact ⟨_, _, g, by decide +kernel⟩
  | .node _, ⟨a, h, g⟩, _ => by cases h; exact ⟨_, _, g, by decide +kernel⟩
  | .pick _, ⟨a, h, g⟩, _ => by cases h; exact ⟨_, _, g, by decide +kernel⟩
def NumV (v : V) : Prop := ∃ j, v = .int j ∧ -GREAT ≤ j ∧ j ≤ GREAT
theorem oV_num {o : Option Int} (h : ∀ l, o = some l → -GREAT ≤ l ∧ l ≤ GREAT) : oV o = .non ∨ NumV (oV o) := by
  cases o with
  | none => exact .inl rfl
  | some l => exact .inr ⟨l, rfl, h l rfl⟩
theorem left_0 {D0 : Ends} (sc : SW H0 S n H) (hn : n ≤ 100000005) (sv : SrtV K H s (.ref a)) (sm : s.small) (nd : ∀ k, s ≠ .node k) (np : ∀ k, s ≠ .pick k) (q : ∀ x H', LeftEnd K H0 S (n + 3) s x H' → D0.rt x H') {u2 u3 u4 u5 u6 u7 u8 : Option V} :
    b_law_left_0 K D0 [some (.ref S), some (.ref a), u2, u3, u4, u5, u6, u7, u8, none] H := by
  by_cases h : ∃ lo hi, s = .num lo hi
  · obtain ⟨lo, hi, rfl⟩ := h
    obtain ⟨a', e, ha⟩ := sv
    cases e
    obtain ⟨ml, mh⟩ := sm
    unfold b_law_left_0
    walk_at "go"
    refine ⟨a, _, rfl, ha, fun e => absurd e.1 (show ¬ HT.sIx 3 0 (some 1) = 0 by decide +kernel), fun _ p1 np1 => ?_⟩
    rw [show cutV [V.str "number", oV lo, oV hi] (some 1) none = [oV lo, oV hi] from rfl]
    have k1 : Kp [] H (upd H p1 (.tup [oV lo, oV hi])) := Kp.refl.upd_new' np1
    have h1 : (upd H p1 (.tup [oV lo, oV hi])) p1 = some (.tup [oV lo, oV hi]) := upd_same
    have sc1 : SW H0 S n (upd H p1 (.tup [oV lo, oV hi])) := sc.new np1
    generalize upd H p1 (.tup [oV lo, oV hi]) = H1 at k1 h1 sc1 ⊢
    have ha1 := k1.sqT List.not_mem_nil ha
    refine ⟨p1, rfl, ⟨_, SqT.of h1⟩, fun D nD => ?_⟩
    refine lc_acc (walk_tup (xs := [oV lo, oV hi])) (fun i acc H' => SW H0 S n H' ∧ Kp [] H1 H' ∧ ∀ v ∈ acc, NumV v) ⟨sc1.new nD, Kp.refl.upd_new' nD, fun v m => nomatch m⟩ (fun _ _ _ _ h => h.2.1.sqT List.not_mem_nil (SqT.of h1)) (fun j x acc Hc Hd hj hl hD hP hY => ?_) (fun acc Hc hl hD hP => ?_)
    · obtain ⟨s1, s2, s4⟩ := hP
      obtain ⟨rfl, hx⟩ := hY
      refine ⟨rfl, ?_⟩
      have hx2 : x = .non ∨ NumV x := by
        have m := List.mem_of_getElem? hx
        simp only [List.mem_cons, List.not_mem_nil, or_false] at m
        rcases m with rfl | rfl
        · exact oV_num ml
        · exact oV_num mh
      have hl2 : acc.length ≤ j := hl
      have hj2 : j < 2 := hj
      rcases hx2 with rfl | ⟨i, rfl, i0, i1⟩
      · walk_at "go"
        all_goals first
          | exact acc_skip hl hD ⟨s1, s2, s4⟩
          | (rename_i e; exact absurd e (by simp))
      · walk_at "go"
        refine acc_go hl (by omega) hD ⟨s1.upd (sc1.was nD) (sc1.nm nD), s2.upd_new nD, fun v m => ?_⟩
        rcases List.mem_append.mp m with m | m
        · exact s4 v m
        · rw [List.mem_singleton.mp m]
          exact ⟨i, rfl, i0, i1⟩
    · obtain ⟨s1, s2, s4⟩ := hP
      have hl2 : acc.length ≤ 2 := hl
      have ha2 := s2.sqT List.not_mem_nil ha1
      walk_at "go"
      rename_i p2 np2 p3 np3 H4 r sc4 k4 r0 r1
      have h3 : (upd (upd Hc p2 (.lst [.int 0])) p3 (.lst (acc ++ [.int 0]))) p3 = some (.lst (acc ++ [.int 0])) := upd_same
      have sc3 : SW H0 S n (upd (upd Hc p2 (.lst [.int 0])) p3 (.lst (acc ++ [.int 0]))) := (s1.new np2).new np3
      have n3 : p3 ∉ [S] := (s1.new np2).nm np3
      have e4 : ∀ v ∈ acc ++ [V.int 0], NumV v := fun v m => by
        rcases List.mem_append.mp m with m | m
        · exact s4 v m
        · rw [List.mem_singleton.mp m]
          exact ⟨0, rfl, by decide, by decide⟩
      have ha3 : SqT K (upd (upd Hc p2 (.lst [.int 0])) p3 (.lst (acc ++ [.int 0]))) a [.str "number", oV lo, oV hi] := ((Kp.refl.upd_new' np2).upd_new' np3).sqT List.not_mem_nil ha2
      obtain ⟨x, hx, ex⟩ := ix_mem r0 r1
      obtain ⟨i, rfl, i0, i1⟩ := e4 x hx
      refine ixL_go (SqL.of (k4.at_ n3 h3)) ex ?_
      have ha4 := sqT_kpT k4 sc3.2.noT ha3
      walk_at "go"
      refine ⟨a, _, rfl, ha4, fun e => absurd e.1 (show ¬ HT.sIx 3 0 (some 1) = 0 by decide +kernel), fun _ p5 np5 => ?_⟩
      rw [show cutV [V.str "number", oV lo, oV hi] (some 1) none = [oV lo, oV hi] from rfl]
      refine gTup_go (SqT.of upd_same) rfl ?_
      have sc5 : SW H0 S (n + 1) (upd H4 p5 (.tup [oV lo, oV hi])) := sc4.new np5
      generalize upd H4 p5 (.tup [oV lo, oV hi]) = H5 at sc5 ⊢
      have fin : ∀ (b : Bool) p6, H5 p6 = none → (b = true → (∀ l, lo = some l → l ≤ i) ∧ ∀ h, hi = some h → i ≤ h) → rMulX K (.ref p6) (.int (if b then 1 else 0)) (upd H5 p6 (.tup [.int i])) fun v H' => D0.rt v H' := fun b p6 n6 hb =>
        repZ_go (SqT.of upd_same) (by simp) (fun e => q _ _ ⟨p6, _, rfl, (sc5.new n6).mono (by omega), SqT.of upd_same, .inr ⟨_, rfl, i, rfl, (hb e).1, (hb e).2, i0, i1⟩⟩) fun e p7 n7 => q _ _ ⟨p7, _, rfl, ((sc5.new n6).new n7).mono (by omega), SqT.of upd_same, .inl rfl⟩
      clear ha1 ha2 ha3 ha4 h1 hl ha ml mh
      cases lo <;> cases hi <;> walk_at "go"
      all_goals first
        | (rename_i p6 n6 c; refine fin _ p6 n6 fun e => ⟨fun l el => ?_, fun h eh => ?_⟩ <;> (first | cases el | cases eh) <;> simp at e <;> omega)
        | (rename_i p6 n6; refine fin _ p6 n6 fun e => ⟨fun l el => ?_, fun h eh => ?_⟩ <;> (first | cases el | cases eh) <;> simp at e <;> omega)
        | (rename_i p6 n6 c1 c2; refine fin _ p6 n6 fun e => ⟨fun l el => ?_, fun h eh => ?_⟩ <;> (first | cases el | cases eh) <;> simp at e <;> omega)
        | exact absurd rfl (by assumption)
  · have nn : ∀ lo hi, s ≠ .num lo hi := fun lo hi e => h ⟨lo, hi, e⟩
    obtain ⟨w, r, hx, hw⟩ := srt_nn sv nn
    unfold b_law_left_0
    walk_at "go"
    · exact absurd (by assumption) hw
    · exact left_1 sc (by omega) hx sv sm nn nd np fun x H' ⟨p, ls, e, sc', h⟩ => q x H' ⟨p, ls, e, sc'.mono (by omega), h⟩
end
theorem SrtV.tup {K : PySem.W.Frag} {H : Hp} : ∀ {s : Srt} {x : V}, SrtV K H s x → ∃ a w r, x = .ref a ∧ SqT K H a (.str w :: r) ∧ (w ∈ (["node", "choice"] : List Str) ↔ (∃ k, s = .node k) ∨ ∃ k, s = .pick k)
  | .num _ _, _, ⟨a, h, g⟩ => ⟨a, _, _, h, g, by constructor <;> intro h <;> first | exact absurd h (by decide +kernel) | (rcases h with ⟨_, h⟩ | ⟨_, h⟩ <;> cases h)⟩
  | .truth, _, ⟨a, h, g⟩ => ⟨a, _, _, h, g, by constructor <;> intro h <;> first | exact absurd h (by decide +kernel) | (rcases h with ⟨_, h⟩ | ⟨_, h⟩ <;> cases h)⟩
  | .text _, _, ⟨a, h, g⟩ => ⟨a, _, _, h, g, by constructor <;> intro h <;> first | exact absurd h (by decide +kernel) | (rcases h with ⟨_, h⟩ | ⟨_, h⟩ <;> cases h)⟩
  | .row _ _, _, ⟨a, _, h, g, _⟩ => ⟨a, _, _, h, g, by constructor <;> intro h <;> first | exact absurd h (by decide +kernel) | (rcases h with ⟨_, h⟩ | ⟨_, h⟩ <;> cases h)⟩
  | .maybe _, _, ⟨a, _, h, g, _⟩ => ⟨a, _, _, h, g, by constructor <;> intro h <;> first | exact absurd h (by decide +kernel) | (rcases h with ⟨_, h⟩ | ⟨_, h⟩ <;> cases h)⟩
  | .node k, _, ⟨a, h, g⟩ => ⟨a, _, _, h, g, fun _ => .inl ⟨k, rfl⟩, fun _ => by decide +kernel⟩
  | .pick k, _, ⟨a, h, g⟩ => ⟨a, _, _, h, g, fun _ => .inr ⟨k, rfl⟩, fun _ => by decide +kernel⟩
theorem p_law_left (K : PySem.W.Frag) (vs : List V) (H : Hp) (Q : VK) (E : XK) (h : sp_law_left K vs H Q E) : t_law_left K { nx := fun _ H' => Q .non H', rt := Q } (start ["_law_well_here", "_law_of", "_law_ends", "_law_found", "_law_low", "_law_high", "_law_signs", "_law_at", "_law_word", "_law_end"] vs) H := by
  unfold sp_law_left at h
  obtain ⟨S, n, x, s, rfl, w, hn, sv, sm, q⟩ := h
  obtain ⟨a, w0, r, rfl, ha, hw⟩ := sv.tup
  have sc : SW H S n H := ⟨Kp.refl, w⟩
  walk_at "go"
  · rename_i H1 r1 sc1 k1 r2 r3 c p1 np1
    exact q _ p1 [] (sc1.1.upd_new' np1) ((sc1.new np1).2.mono (by omega)) (SqT.of upd_same) (.inl rfl)
  · rename_i H1 r1 sc1 k1 r2 r3 c
    have ha1 := sqT_kpT k1 sc.2.noT ha
    have sv1 := sv.kpT k1 sc.2.noT
    walk_at "go"
    rename_i p2 np2
    have k2 : Kp [] H1 (upd H1 p2 (.lst [.str "node", .str "choice"])) := Kp.refl.upd_new' np2
    have sc2 : SW H S (n + 1) (upd H1 p2 (.lst [.str "node", .str "choice"])) := sc1.new np2
    have sv2 := sv1.kpT k2 fun b m => nomatch m
    refine inS_go (zs := ["node", "choice"]) (SqL.of upd_same) ?_
    generalize upd H1 p2 (.lst [.str "node", .str "choice"]) = H2 at k2 sc2 sv2 ⊢
    by_cases c2 : w0 ∈ (["node", "choice"] : List Str)
    · rw [decide_eq_true c2]
      walk_at "go"
      rename_i p3 np3
      exact q _ p3 [] (sc2.1.upd_new' np3) ((sc2.new np3).2.mono (by omega)) (SqT.of upd_same) (.inl rfl)
    · rw [decide_eq_false c2]
      walk_at "go"
      have nn := fun z => c2 (hw.mpr z)
      exact left_0 sc2 (by omega) sv2 sm (fun k e => nn (.inl ⟨k, e⟩)) (fun k e => nn (.inr ⟨k, e⟩)) fun x H' ⟨p, ls, e, sc', h1, h2⟩ => by
        subst e
        exact q _ p ls sc'.1 (sc'.2.mono (by omega)) h1 h2
end K02

-- imports: K02S6 K02L0 K02L1 K02L2 K02L3 K02L4
/-! ## k02: fields drawn -/
namespace K02
open PySem PySem.Spec PyProof.Rows L2 Kb
section
variable {K : PySem.W.Frag} {H0 H H' : Hp} {S A B p a : Addr} {Q : VK} {E : XK} {n d : Nat} {zs ws : List Str}
theorem notInI_go {k : Int} {ns : List Int} (h : SqL K H a (ns.map V.int)) (q : Q (.bl (!decide (k ∈ ns))) H) : rNotInU K (.int k) (.ref a) H Q := by
  refine notInL_go h rfl (List.all_eq_true.mpr fun v hv => by obtain ⟨i, _, rfl⟩ := List.mem_map.mp hv; rfl) ?_
  rw [inV_ints]
  exact q
theorem names_go {m : Int} (sc : SW H0 S n H) (hn : n ≤ 100000000) (m0 : 0 ≤ m) (m6 : m ≤ 6) (q : ∀ H' p zs, SW H0 S (n + 100) H' → Kp [S] H H' → H p = none → Nms H' p zs → (zs.length : Int) = m → zs.Nodup → (∀ z ∈ zs, NameOk z) → Q (.ref p) H') : sp_law_names K [.ref S, .int m] H Q E := by
  unfold sp_law_names
  exact ⟨S, n, m, rfl, sc.2, hn, m0, m6, fun H' p zs k w np nm l nd ok => q H' p zs ⟨sc.1.trans k, w⟩ k np nm l nd ok⟩
theorem dleft_go {x : V} {s : Srt} (sc : SW H0 S n H) (hn : n ≤ 100000000) (sv : SrtV K H s x) (sm : s.small) (q : ∀ H' p ls, SW H0 S (n + 5) H' → Kp [S] H H' → SqT K H' p ls → (ls = [] ∨ ∃ v, ls = [v] ∧ DfOk K H' s v) → Q (.ref p) H') : sp_law_left K [.ref S, x] H Q E := by
  unfold sp_law_left
  exact ⟨S, n, x, s, rfl, sc.2, hn, sv, sm, fun H' p ls k w h1 h2 => q H' p ls ⟨sc.1.trans k, w⟩ k h1 h2⟩
end
theorem len_law_fields (K : PySem.W.Frag) : ∀ vs H Q E, sp_law_fields K vs H Q E → vs.length = ["_law_well_here", "_law_nodes", "_law_some"].length := by
  intro _ _ _ _ h
  unfold sp_law_fields at h
  obtain ⟨_, _, _, _, _, _, rfl, _⟩ := h
  rfl
theorem paired_len {α β : Type} {R : α → β → Prop} : ∀ {xs : List α} {ys : List β}, Paired R xs ys → xs.length = ys.length
  | _, _, .nil => rfl
  | _, _, .cons _ t => by simp [paired_len t]
theorem nodup_snoc {α : Type} {xs : List α} {x : α} (h : xs.Nodup) (n : x ∉ xs) : (xs ++ [x]).Nodup := by
  rw [List.nodup_append]
  exact ⟨h, by simp, fun a ha b hb e => n (by rw [← List.mem_singleton.mp hb, ← e]; exact ha)⟩
/-- fields drawn so far, of these names -/
structure FSt (K : PySem.W.Frag) (nk ck : Str → Prop) (names : List Str) (p3 p4 : Addr) (H : Hp) (fls : List Fld) (xs : List V) : Prop where
  at_ : Paired (FldV K H) fls xs
  ok : ∀ f ∈ fls, f.ok nk ck
  nm : ∀ f ∈ fls, f.name ∈ names
  nd : (fls.map (·.name)).Nodup
  nn : (fls.map (·.num)).Nodup
  h3 : H p3 = some (.lst xs)
  h4 : H p4 = some (.lst ((fls.map (·.num)).map V.int))
  le : xs.length ≤ names.length
section
variable {K : PySem.W.Frag} {H0 H : Hp} {S A B p3 p4 : Addr} {D : Ends} {n : Nat} {zs ws : List Str} {nk ck : Str → Prop} {names : List Str} {fls : List Fld} {xs : List V}
theorem FSt.more {z : Str} (st : FSt K nk ck names p3 p4 H fls xs) : FSt K nk ck (names ++ [z]) p3 p4 H fls xs :=
  ⟨st.at_, st.ok, fun f hf => List.mem_append_left _ (st.nm f hf), st.nd, st.nn, st.h3, st.h4, by have := st.le; simp; omega⟩
theorem FSt.kp {H' : Hp} (st : FSt K nk ck names p3 p4 H fls xs) (k : Kp [S] H H') (l : ∀ b ∈ [S], NoT H b) (h3 : p3 ∉ [S]) (h4 : p4 ∉ [S]) : FSt K nk ck names p3 p4 H' fls xs :=
  ⟨paired_imp (fun _ _ g => g.kpT k l) st.at_, st.ok, st.nm, st.nd, st.nn, k.at_ h3 st.h3, k.at_ h4 st.h4, st.le⟩
theorem FSt.kp0 {H' : Hp} (st : FSt K nk ck names p3 p4 H fls xs) (k : Kp [] H H') : FSt K nk ck names p3 p4 H' fls xs :=
  ⟨paired_imp (fun _ _ g => g.kpT k fun b m => nomatch m) st.at_, st.ok, st.nm, st.nd, st.nn, k.at_ List.not_mem_nil st.h3, k.at_ List.not_mem_nil st.h4, st.le⟩
theorem fields_1 {k : Int} {z : Str} {x u1 u2 : V} {s : Srt} (sc : SW H0 S n H) (hn : n ≤ 10000000) (n3 : H0 p3 = none) (n4 : H0 p4 = none) (m3 : p3 ∉ [S]) (m4 : p4 ∉ [S]) (p34 : p3 ≠ p4) (st : FSt K nk ck names p3 p4 H fls xs) (nl : names.length ≤ 10)
    (k0 : 1 ≤ k) (k1 : k ≤ 99) (hz : NameOk z) (nz : z ∉ names) (sv : SrtV K H s x) (sok : s.ok nk ck 3) (sm : s.small)
    (q : ∀ H' fls' xs', SW H0 S (n + 5) H' → Kp [S, p3, p4] H H' → FSt K nk ck (names ++ [z]) p3 p4 H' fls' xs' → D.nx [some (.ref S), some u1, some u2, some (.ref p3), some (.ref p4), some (.str z), some (.int k), some x] H') :
    b_law_fields_1 K D [some (.ref S), some u1, some u2, some (.ref p3), some (.ref p4), some (.str z), some (.int k), some x] H := by
  unfold b_law_fields_1
  walk_at "go"
  refine notInI_go (SqL.of st.h4) ?_
  by_cases c : k ∈ fls.map (·.num)
  · rw [decide_eq_true c]
    walk_at "go"
    exact q _ _ _ (sc.mono (by omega)) Kp.refl st.more
  · rw [decide_eq_false c]
    have h3 := st.h3
    walk_at "go"
    rename_i p5 np5
    have k5 : Kp [] H (upd H p5 (.tup [.int k, .str z, x])) := Kp.refl.upd_new' np5
    have st5 := st.kp0 k5
    have sc5 : SW H0 S n (upd H p5 (.tup [.int k, .str z, x])) := sc.new np5
    have sv5 := sv.kpT k5 fun b m => nomatch m
    have n5 : p5 ∉ [S] := sc.nm np5
    have h5 : (upd H p5 (.tup [.int k, .str z, x])) p5 = some (.tup [.int k, .str z, x]) := upd_same
    generalize upd H p5 (.tup [.int k, .str z, x]) = H5 at k5 st5 sc5 sv5 h5 ⊢
    refine dleft_go sc5 (by omega) sv5 sm fun H6 p6 ls sc6 k6 h6 hls => ?_
    have st6 := st5.kp k6 sc5.2.noT m3 m4
    have h56 := k6.at_ n5 h5
    have sv6 := sv5.kpT k6 sc5.2.noT
    have fin : ∀ H7 p7 dfl, SW H0 S (n + 5) H7 → Kp [] H6 H7 → H7 p7 = some (.tup ([.int k, .str z, x] ++ dfl.toList)) → (∀ v, dfl = some v → DfOk K H7 s v) →
        rAppU (.ref p3) [.ref p7] H7 fun v H8 => (tDrop (tBM K "list" rAppU (tVar 4) (tCons (tVar 6) tNil))) D [some (.ref S), some u1, some u2, some (.ref p3), some (.ref p4), some (.str z), some (.int k), some x] H8 := fun H7 p7 dfl sc7 k7 h7 hd => by
      have st7 := st6.kp0 k7
      have sv7 := sv6.kpT k7 fun b m => nomatch m
      have p73 : p7 ≠ p3 := fun e => by rw [e, st7.h3] at h7; cases h7
      have p74 : p7 ≠ p4 := fun e => by rw [e, st7.h4] at h7; cases h7
      have xl : xs.length ≤ 10 := by have := st.le; omega
      refine app_go st7.h3 (by omega) ?_
      have h48 : (upd H7 p3 (.lst (xs ++ [.ref p7]))) p4 = some (.lst ((fls.map (·.num)).map V.int)) := (upd_ne p34.symm).trans st7.h4
      have fl : fls.length = xs.length := paired_len st7.at_
      walk_at "go"
      have kk : Kp [S, p3, p4] H H7 := (k5.mono fun a m => nomatch m).trans ((k6.mono fun a m => by rw [List.mem_singleton.mp m]; exact List.mem_cons_self).trans (k7.mono fun a m => nomatch m))
      have k9 : Kp [p3, p4] H7 (upd (upd H7 p3 (.lst (xs ++ [.ref p7]))) p4 (.lst ((fls.map (·.num)).map V.int ++ [.int k]))) := (Kp.refl.upd_in List.mem_cons_self).upd_in (List.mem_cons_of_mem _ List.mem_cons_self)
      have l9 : ∀ b ∈ [p3, p4], NoT H7 b := fun b m => by
        rcases List.mem_cons.mp m with rfl | m
        · exact noT_lst st7.h3
        · rw [List.mem_singleton.mp m]
          exact noT_lst st7.h4
      refine q _ (fls ++ [⟨k, z, s, x, dfl⟩]) (xs ++ [.ref p7]) ((sc7.upd n3 m3).upd n4 m4) ((kk.upd_in (List.mem_cons_of_mem _ List.mem_cons_self)).upd_in (List.mem_cons_of_mem _ (List.mem_cons_of_mem _ List.mem_cons_self))) ⟨paired_snoc (paired_imp (fun _ _ g => g.kpT k9 l9) st7.at_) ?_, fun f hf => ?_, fun f hf => ?_, ?_, ?_, (upd_ne p34).trans upd_same, ?_, ?_⟩
      · exact ⟨⟨p7, rfl, SqT.of (k9.at_ (fun m => by rcases List.mem_cons.mp m with e | m; exact p73 e; exact p74 (List.mem_singleton.mp m)) h7)⟩, sv7.kpT k9 l9, fun v e => (hd v e).kpT k9 l9⟩
      · rcases List.mem_append.mp hf with hf | hf
        · exact st7.ok f hf
        · rw [List.mem_singleton.mp hf]
          exact ⟨k0, k1, hz, sok⟩
      · rcases List.mem_append.mp hf with hf | hf
        · exact List.mem_append_left _ (st7.nm f hf)
        · rw [List.mem_singleton.mp hf]
          exact List.mem_append_right _ List.mem_cons_self
      · rw [List.map_append]
        refine nodup_snoc st7.nd fun m => ?_
        obtain ⟨f, hf, e⟩ := List.mem_map.mp m
        exact nz ((show f.name = z from e) ▸ st7.nm f hf)
      · rw [List.map_append]
        exact nodup_snoc st7.nn c
      · rw [upd_same, List.map_append, List.map_append]
        rfl
      · rw [List.length_append, List.length_append]
        have := st7.le
        simpa using this
    rcases hls with rfl | ⟨v, rfl, dv⟩
    · refine addT_go (SqT.of h56) h6 (by simp) (by show 3 + _ ≤ _; simp) (fun _ => ?_) fun e => absurd rfl e
      exact fin _ p5 none sc6 Kp.refl h56 fun v e => by cases e
    · refine addT_go (SqT.of h56) h6 (by simp) (by show 3 + _ ≤ _; simp) (fun e => by cases e) fun _ p7 np7 => ?_
      exact fin _ p7 (some v) (sc6.new np7) (Kp.refl.upd_new' np7) upd_same fun w e => by cases e; exact dv.kpT (Kp.refl.upd_new' np7) (fun b m => absurd m List.not_mem_nil)
theorem fields_0 {z : Str} {u6 u7 : Option V} (sc : SW H0 S n H) (hn : n ≤ 9000000) (AS : A ≠ S) (BS : B ≠ S) (hA : Nms H0 A zs) (hB : Nms H0 B ws) (n3 : H0 p3 = none) (n4 : H0 p4 = none) (m3 : p3 ∉ [S]) (m4 : p4 ∉ [S]) (p34 : p3 ≠ p4) (st : FSt K (· ∈ zs) (· ∈ ws) names p3 p4 H fls xs) (nl : names.length ≤ 10) (hz : NameOk z) (nz : z ∉ names)
    (q : ∀ H' fls' xs' u6 u7, SW H0 S (n + 110) H' → Kp [S, p3, p4] H H' → FSt K (· ∈ zs) (· ∈ ws) (names ++ [z]) p3 p4 H' fls' xs' → D.nx [some (.ref S), some (.ref A), some (.ref B), some (.ref p3), some (.ref p4), some (.str z), u6, u7] H') :
    b_law_fields_0 K D [some (.ref S), some (.ref A), some (.ref B), some (.ref p3), some (.ref p4), some (.str z), u6, u7] H := by
  have AS' : A ∉ [S] := fun m => AS (List.mem_singleton.mp m)
  have BS' : B ∉ [S] := fun m => BS (List.mem_singleton.mp m)
  unfold b_law_fields_0
  walk_at "go"
  rename_i H1 r1 sc1 k1 r2 r3 H2 r4 sc2 k2 r5 r6 p6 np6 H3 r7 sc3 k3 r8 r9
  have hp6 : H3 p6 = some (.lst [.int (1 + r1), .int (1 + r4), .int 99]) := k3.at_ (sc2.nm np6) upd_same
  obtain ⟨x, hx, ex⟩ := ix_mem (xs := [V.int (1 + r1), V.int (1 + r4), V.int 99]) r8 r9
  have hx2 : ∃ m : Int, x = .int m ∧ 1 ≤ m ∧ m ≤ 99 := by
    simp only [List.mem_cons, List.not_mem_nil, or_false] at hx
    rcases hx with rfl | rfl | rfl
    · exact ⟨_, rfl, by omega, by omega⟩
    · exact ⟨_, rfl, by omega, by omega⟩
    · exact ⟨_, rfl, by omega, by omega⟩
  obtain ⟨m, rfl, m0, m1⟩ := hx2
  refine ixL_go (SqL.of hp6) ex ?_
  have kk : Kp [S] H H3 := k1.trans (k2.trans ((Kp.refl.upd_new' np6).trans k3))
  have st3 := st.kp kk sc.2.noT m3 m4
  walk_at "go"
  refine lsort_go sc3 (by omega) AS BS (hA.kp sc3.1 AS') (hB.kp sc3.1 BS') (by decide) (by decide) fun H4 y s sc4 k4 sv sok sm => ?_
  have st4 := st3.kp k4 sc3.2.noT m3 m4
  walk_at "go"
  refine fields_1 sc4 (by omega) n3 n4 m3 m4 p34 st4 nl m0 m1 hz nz sv (Srt.ok_up sok) sm fun H5 fls' xs' sc5 k5 st5 => ?_
  exact q _ fls' xs' _ _ (sc5.mono (by omega)) (((kk.trans k4).mono fun a m => by rw [List.mem_singleton.mp m]; exact List.mem_cons_self).trans k5) st5
theorem fields_go (sc : SW H0 S n H) (hn : n ≤ 1000000) (AS : A ≠ S) (BS : B ≠ S) (hA : Nms H A zs) (hB : Nms H B ws) {Q : VK} {E : XK}
    (q : ∀ H' p fls xs, SW H0 S (n + 1000) H' → Kp [S] H H' → H p = none → H' p = some (.lst xs) → RowF K H' (· ∈ zs) (· ∈ ws) fls xs → xs.length ≤ 10 → Q (.ref p) H') : sp_law_fields K [.ref S, .ref A, .ref B] H Q E := by
  unfold sp_law_fields
  exact ⟨S, A, B, n, zs, ws, rfl, sc.2, hn, AS, BS, hA, hB, fun H' p fls xs k w np hp rf l => q H' p fls xs ⟨sc.1.trans k, w⟩ k np hp rf l⟩
end
theorem p_law_fields (K : PySem.W.Frag) (vs : List V) (H : Hp) (Q : VK) (E : XK) (h : sp_law_fields K vs H Q E) : t_law_fields K { nx := fun _ H' => Q .non H', rt := Q } (start ["_law_well_here", "_law_nodes", "_law_some", "_law_found", "_law_numbers", "_law_name", "_law_number_here", "_law_of"] vs) H := by
  unfold sp_law_fields at h
  obtain ⟨S, A, B, n, zs, ws, rfl, w, hn, AS, BS, hA, hB, q⟩ := h
  have sc : SW H S n H := ⟨Kp.refl, w⟩
  walk_at "go"
  rename_i p3 np3 p4 np4 H1 r1 sc1 k1 r2 r3
  have m3 : p3 ∉ [S] := sc.nm np3
  have m4 : p4 ∉ [S] := (sc.new np3).nm np4
  have n4 : H p4 = none := (sc.new np3).was np4
  have p34 : p3 ≠ p4 := ne_of_none upd_same np4
  have h3 : H1 p3 = some (.lst []) := k1.at_ m3 ((upd_ne p34).trans upd_same)
  have h4 : H1 p4 = some (.lst []) := k1.at_ m4 upd_same
  show sp_law_names K [.ref S, .int r1] H1 _ _
  refine names_go sc1 (by omega) r2 (by omega) fun H2 p5 nms sc2 k2 n5 hN hl nd ok => ?_
  have p5S : p5 ≠ S := sc1.2.ne n5
  have p53 : p5 ≠ p3 := (ne_of_none h3 n5).symm
  have p54 : p5 ≠ p4 := (ne_of_none h4 n5).symm
  have nm5 : p5 ∉ [S, p3, p4] := fun m => by
    simp only [List.mem_cons, List.not_mem_nil, or_false] at m
    rcases m with e | e | e
    · exact p5S e
    · exact p53 e
    · exact p54 e
  have st2 : FSt K (· ∈ zs) (· ∈ ws) [] p3 p4 H2 [] [] := ⟨.nil, (fun f h => nomatch h), (fun f h => nomatch h), List.nodup_nil, List.nodup_nil, k2.at_ m3 h3, k2.at_ m4 h4, Nat.le_refl _⟩
  refine ⟨p5, rfl, ⟨_, SqL.of hN.1⟩, ?_⟩
  refine for_it (walk_list (xs := nms.map V.str)) (fun i σ H' => ∃ fls xs u5 u6 u7, σ = [some (.ref S), some (.ref A), some (.ref B), some (.ref p3), some (.ref p4), u5, u6, u7] ∧ SW H S (n + 101 + 110 * i) H' ∧ Kp [S, p3, p4] H2 H' ∧ FSt K (· ∈ zs) (· ∈ ws) (nms.take i) p3 p4 H' fls xs)
    ⟨[], [], _, _, _, rfl, sc2.mono (by omega), Kp.refl, st2⟩ (fun i σ H' _ ⟨_, _, _, _, _, _, _, k, _⟩ => SqL.of (k.at_ nm5 hN.1)) ?_ (fun σ H' h => ?_)
  · rintro i x σ Ha Hb hi ⟨fls, xs, u5, u6, u7, rfl, sca, ka, st⟩ ⟨rfl, ex⟩
    rw [List.getElem?_map] at ex
    obtain ⟨z, ez, rfl⟩ := Option.map_eq_some_iff.mp ex
    have hz := ok z (List.mem_of_getElem? ez)
    have nz : z ∉ nms.take i := nodup_take nd ez
    have hi5 : i < 5 := by rw [List.length_map] at hi; omega
    walk_at "go"
    refine fields_0 sca (by omega) AS BS hA hB np3 n4 m3 m4 p34 st (by rw [List.length_take]; omega) hz nz fun H3 fls' xs' u6 u7 sc3 k3 st3 => ?_
    rw [← take_snoc ez] at st3
    exact ⟨fls', xs', _, _, _, rfl, sc3.mono (by omega), ka.trans k3, st3⟩
  · obtain ⟨fls, xs, u5, u6, u7, rfl, sca, ka, st⟩ := h
    walk_at "go"
    rw [List.length_map] at sca
    have lx : xs.length ≤ 4 := by
      have h1 := st.le
      rw [List.length_take] at h1
      omega
    exact q _ p3 fls xs sca.1 (sca.2.mono (by omega)) np3 st.h3 ⟨st.at_, st.ok, st.nd, st.nn, by omega⟩ (by omega)
end K02

-- imports: K02S6 K02L0 K02L1 K02L2 K02L3 K02L4 K02L5
/-! ## k02: cases drawn -/
namespace K02
open PySem PySem.Spec PyProof.Rows L2 Kb
section
variable {K : PySem.W.Frag} {H : Hp} {a : Addr} {Q : VK}
theorem idxI_go {m : Int} {ns : List Int} (h : SqL K H a (ns.map V.int)) (hm : m ∈ ns) (q : ∀ j, ns[j]? = some m → Q (.int (j : Nat)) H) : rIndex K (.ref a) [.int m] H Q := by
  have ex : ∃ x ∈ ns, (decide (x = m)) = true := ⟨m, hm, by simp⟩
  have hl : ns.findIdx (fun x => decide (x = m)) < ns.length := List.findIdx_lt_length_of_exists ex
  have e1 : ns[ns.findIdx fun x => decide (x = m)]? = some m := by
    rw [List.getElem?_eq_getElem hl]
    have := List.findIdx_getElem (w := hl)
    simpa using this
  refine ⟨a, ns.map V.int, .int m, _, .int m, rfl, rfl, h, rfl, List.all_eq_true.mpr fun v hv => by obtain ⟨i, _, rfl⟩ := List.mem_map.mp hv; rfl, by rw [List.getElem?_map, e1]; rfl, by show (m == m) = true; simp, fun i z' hi e => ?_, q _ e1⟩
  rw [List.getElem?_map] at e
  obtain ⟨y, ey, rfl⟩ := Option.map_eq_some_iff.mp e
  show (y == m) = false
  have hi2 : i < ns.length := by omega
  have := List.not_of_lt_findIdx hi
  rw [List.getElem?_eq_getElem hi2] at ey
  rw [← Option.some.inj ey]
  simpa using this
theorem idxS_go {z : Str} {ws : List Str} (h : SqL K H a (ws.map V.str)) (hz : z ∈ ws) (q : Q (.int (plc ws z : Nat)) H) : rIndex K (.ref a) [.str z] H Q := by
  unfold plc at q
  have ex : ∃ x ∈ ws, (decide (x = z)) = true := ⟨z, hz, by simp⟩
  have hl : ws.findIdx (fun x => decide (x = z)) < ws.length := List.findIdx_lt_length_of_exists ex
  have e1 : ws[ws.findIdx fun x => decide (x = z)]? = some z := by
    rw [List.getElem?_eq_getElem hl]
    have := List.findIdx_getElem (w := hl)
    simpa using this
  refine ⟨a, ws.map V.str, .str z, _, .str z, rfl, rfl, h, rfl, List.all_eq_true.mpr fun v hv => by obtain ⟨i, _, rfl⟩ := List.mem_map.mp hv; rfl, by rw [List.getElem?_map, e1]; rfl, by show (z == z) = true; simp, fun i z' hi e => ?_, q⟩
  rw [List.getElem?_map] at e
  obtain ⟨y, ey, rfl⟩ := Option.map_eq_some_iff.mp e
  show (y == z) = false
  have hi2 : i < ws.length := by omega
  have := List.not_of_lt_findIdx hi
  rw [List.getElem?_eq_getElem hi2] at ey
  rw [← Option.some.inj ey]
  simpa using this
theorem min_goI {ns : List Int} (h : SqL K H a (ns.map V.int)) (hl : 0 < ns.length) (q : ∀ m, m ∈ ns → (∀ y, y ∈ ns → m ≤ y) → Q (.int m) H) : rMin K [.ref a] H Q := ⟨a, ns, rfl, h, hl, q⟩
end
theorem nodup_inj {α β : Type} {f : α → β} : ∀ {xs : List α} {x y : α}, (xs.map f).Nodup → x ∈ xs → y ∈ xs → f x = f y → x = y
  | [], _, _, _, h, _, _ => nomatch h
  | a :: xs, x, y, nd, hx, hy, e => by
    rw [List.map_cons, List.nodup_cons] at nd
    rcases List.mem_cons.mp hx with h1 | h1 <;> rcases List.mem_cons.mp hy with h2 | h2
    · rw [h1, h2]
    · exact absurd (List.mem_map.mpr ⟨y, h2, by rw [← e, h1]⟩) nd.1
    · exact absurd (List.mem_map.mpr ⟨x, h1, by rw [e, h2]⟩) nd.1
    · exact nodup_inj nd.2 h1 h2 e
theorem ixN_at {n j : Nat} (h : j < n) : ixN n (j : Int) = some j := by
  unfold ixN
  rw [if_pos (by omega), if_pos (by omega)]
  simp
theorem set_map {α β : Type} {f : α → β} {xs : List α} {j : Nat} {x y : α} (h : xs[j]? = some x) (e : f y = f x) : (xs.set j y).map f = xs.map f := by
  rw [List.map_set, e]
  refine List.ext_getElem? fun i => ?_
  by_cases c : j = i
  · subst c
    have := (List.getElem?_eq_some_iff.mp h).1
    rw [List.getElem?_set_self (by rw [List.length_map]; exact this), List.getElem?_map, h]
    rfl
  · rw [List.getElem?_set_ne c]
theorem paired_set {α β : Type} {R : α → β → Prop} {a : α} {b : β} : ∀ {xs : List α} {ys : List β} (j : Nat), Paired R xs ys → R a b → Paired R (xs.set j a) (ys.set j b)
  | _, _, _, .nil, _ => .nil
  | _, _, 0, .cons _ t, h => .cons h t
  | _, _, j + 1, .cons g t, h => .cons g (paired_set j t h)
theorem paired_ix {α β : Type} {R : α → β → Prop} : ∀ {xs : List α} {ys : List β} {j : Nat} {x : α}, Paired R xs ys → xs[j]? = some x → ∃ y, ys[j]? = some y ∧ R x y
  | _, _, 0, _, .cons h _, e => by cases e; exact ⟨_, rfl, h⟩
  | _, _, j + 1, x, .cons _ t, e => by
    rw [List.getElem?_cons_succ] at e
    obtain ⟨y, ey, r⟩ := paired_ix t e
    exact ⟨y, by rw [List.getElem?_cons_succ]; exact ey, r⟩
theorem SrtV.tup2 {K : PySem.W.Frag} {H : Hp} : ∀ {s : Srt} {x : V}, SrtV K H s x → (∀ z, s ≠ .pick z) → ∃ a w r, x = .ref a ∧ SqT K H a (.str w :: r) ∧ w ≠ "choice"
  | .num _ _, _, ⟨a, h, g⟩, _ => ⟨a, _, _, h, g, by decide +kernel⟩
  | .truth, _, ⟨a, h, g⟩, _ => ⟨a, _, _, h, g, by decide +kernel⟩
  | .text _, _, ⟨a, h, g⟩, _ => ⟨a, _, _, h, g, by decide +kernel⟩
  | .row _ _, _, ⟨a, _, h, g, _⟩, _ => ⟨a, _, _, h, g, by decide +kernel⟩
  | .maybe _, _, ⟨a, _, h, g, _⟩, _ => ⟨a, _, _, h, g, by decide +kernel⟩
  | .node k, _, ⟨a, h, g⟩, _ => ⟨a, _, _, h, g, by decide +kernel⟩
  | .pick k, _, ⟨a, h, g⟩, n => absurd rfl (n k)
/-- the least case leads to no choice but a later one -/
def Low (ws : List Str) (k : Nat) (cs : List Cse) : Prop := ∀ c ∈ cs, (∀ d ∈ cs, c.num ≤ d.num) → ∀ z', c.s = some (.pick z') → k < plc ws z'
theorem low_of {ws : List Str} {k : Nat} {cs : List Cse} {c : Cse} (nd : (cs.map (·.num)).Nodup) (hc : c ∈ cs) (mn : ∀ d ∈ cs, c.num ≤ d.num) (h : ∀ z', c.s = some (.pick z') → k < plc ws z') : Low ws k cs := fun d hd hm z' e => by
  have : d.num = c.num := Int.le_antisymm (hm c hc) (mn d hd)
  rw [nodup_inj nd hd hc this] at e
  exact h z' e
theorem len_law_cases (K : PySem.W.Frag) : ∀ vs H Q E, sp_law_cases K vs H Q E → vs.length = ["_law_well_here", "_law_nodes", "_law_some", "_law_k"].length := by
  intro _ _ _ _ h
  unfold sp_law_cases at h
  obtain ⟨_, _, _, _, _, _, _, rfl, _⟩ := h
  rfl
/-- cases drawn so far, of these names -/
structure CSt (K : PySem.W.Frag) (nk ck : Str → Prop) (names : List Str) (p4 p5 : Addr) (H : Hp) (cs : List Cse) (xs : List V) : Prop where
  at_ : Paired (CseV K H) cs xs
  ok : ∀ c ∈ cs, c.ok nk ck
  nm : ∀ c ∈ cs, c.name ∈ names
  nd : (cs.map (·.name)).Nodup
  nn : (cs.map (·.num)).Nodup
  h4 : H p4 = some (.lst xs)
  h5 : H p5 = some (.lst ((cs.map (·.num)).map V.int))
  le : xs.length ≤ names.length
  ne : names ≠ [] → cs ≠ []
/-- a case's content drawn -/
def Cont (K : PySem.W.Frag) (nk ck : Str → Prop) (H : Hp) (x : V) : Prop := x = .non ∨ ∃ s, SrtV K H s x ∧ s.ok nk ck 3
section
variable {K : PySem.W.Frag} {H0 H : Hp} {S A B p4 p5 : Addr} {D : Ends} {n k : Nat} {zs ws : List Str} {nk ck : Str → Prop} {names : List Str} {cs : List Cse} {xs : List V}
theorem CSt.more {z : Str} (st : CSt K nk ck names p4 p5 H cs xs) (ne : cs ≠ []) : CSt K nk ck (names ++ [z]) p4 p5 H cs xs :=
  ⟨st.at_, st.ok, fun f hf => List.mem_append_left _ (st.nm f hf), st.nd, st.nn, st.h4, st.h5, by have := st.le; simp; omega, fun _ => ne⟩
theorem CSt.kp {H' : Hp} (st : CSt K nk ck names p4 p5 H cs xs) (k : Kp [S] H H') (l : ∀ b ∈ [S], NoT H b) (h4 : p4 ∉ [S]) (h5 : p5 ∉ [S]) : CSt K nk ck names p4 p5 H' cs xs :=
  ⟨paired_imp (fun _ _ g => g.kpT k l) st.at_, st.ok, st.nm, st.nd, st.nn, k.at_ h4 st.h4, k.at_ h5 st.h5, st.le, st.ne⟩
theorem CSt.kp0 {H' : Hp} (st : CSt K nk ck names p4 p5 H cs xs) (k : Kp [] H H') : CSt K nk ck names p4 p5 H' cs xs :=
  ⟨paired_imp (fun _ _ g => g.kpT k fun b m => nomatch m) st.at_, st.ok, st.nm, st.nd, st.nn, k.at_ List.not_mem_nil st.h4, k.at_ List.not_mem_nil st.h5, st.le, st.ne⟩
theorem Cont.kpT {H' : Hp} {x : V} {M : List Addr} (h : Cont K nk ck H x) (k : Kp M H H') (l : ∀ b ∈ M, NoT H b) : Cont K nk ck H' x :=
  h.imp id fun ⟨s, a, b⟩ => ⟨s, a.kpT k l, b⟩
theorem cases_1 {m : Int} {z : Str} {x u1 u2 u3 : V} {u9 : Option V} (sc : SW H0 S n H) (n4 : H0 p4 = none) (n5 : H0 p5 = none) (m4 : p4 ∉ [S]) (m5 : p5 ∉ [S]) (p45 : p4 ≠ p5) (st : CSt K nk ck names p4 p5 H cs xs) (nl : names.length ≤ 10)
    (k0 : 0 ≤ m) (k1 : m ≤ 99) (hz : NameOk z) (nz : z ∉ names) (cn : Cont K nk ck H x)
    (q : ∀ H' cs' xs', SW H0 S n H' → Kp [p4, p5] H H' → CSt K nk ck (names ++ [z]) p4 p5 H' cs' xs' → D.nx [some (.ref S), some u1, some u2, some u3, some (.ref p4), some (.ref p5), some (.str z), some (.int m), some x, u9] H') :
    b_law_cases_1 K D [some (.ref S), some u1, some u2, some u3, some (.ref p4), some (.ref p5), some (.str z), some (.int m), some x, u9] H := by
  unfold b_law_cases_1
  walk_at "go"
  refine notInI_go (SqL.of st.h5) ?_
  by_cases c : m ∈ cs.map (·.num)
  · rw [decide_eq_true c]
    walk_at "go"
    exact q _ _ _ sc Kp.refl (st.more fun e => by rw [e] at c; exact nomatch c)
  · rw [decide_eq_false c]
    have h4 := st.h4
    walk_at "go"
    rename_i p6 np6
    obtain ⟨y, so, ey, h1, h2, h3⟩ : ∃ y so, atI [x, .non] (if decide (m = 0) = true then 1 else 0) = some y ∧ (∀ s, so = some s → SrtV K H s y ∧ s.ok nk ck 3) ∧ (so = none → y = .non) ∧ (m = 0 → so = none) := by
      by_cases c0 : m = 0
      · exact ⟨.non, none, by rw [decide_eq_true c0]; rfl, (fun s e => by cases e), fun _ => rfl, fun _ => rfl⟩
      · rcases cn with rfl | ⟨s, a, b⟩
        · exact ⟨.non, none, by rw [decide_eq_false c0]; rfl, (fun s e => by cases e), fun _ => rfl, fun _ => rfl⟩
        · exact ⟨x, some s, by rw [decide_eq_false c0]; rfl, (fun s' e => by cases e; exact ⟨a, b⟩), (fun e => by cases e), fun e => absurd e c0⟩
    refine ixL_go (SqL.of upd_same) ey ?_
    have k6 : Kp [] H (upd H p6 (.lst [x, .non])) := Kp.refl.upd_new' np6
    have sc6 : SW H0 S n (upd H p6 (.lst [x, .non])) := sc.new np6
    have st6 := st.kp0 k6
    have h16 : ∀ s, so = some s → SrtV K (upd H p6 (.lst [x, .non])) s y ∧ s.ok nk ck 3 := fun s e => ⟨(h1 s e).1.kpT k6 (fun b m => nomatch m), (h1 s e).2⟩
    generalize upd H p6 (.lst [x, .non]) = H6 at k6 sc6 st6 h16 ⊢
    have h46 := st6.h4
    have h56 := st6.h5
    have xl : xs.length ≤ 10 := by have := st.le; omega
    have fl : cs.length = xs.length := paired_len st.at_
    walk_at "go"
    rename_i p7 np7
    have p74 : p4 ≠ p7 := ne_of_none h46 np7
    have p75 : p5 ≠ p7 := ne_of_none h56 np7
    have k7 : Kp [] H6 (upd H6 p7 (.tup [.int m, .str z, y])) := Kp.refl.upd_new' np7
    have h7 : (upd H6 p7 (.tup [.int m, .str z, y])) p7 = some (.tup [.int m, .str z, y]) := upd_same
    have sc7 : SW H0 S n (upd H6 p7 (.tup [.int m, .str z, y])) := sc6.new np7
    have st7 := st6.kp0 k7
    have h17 : ∀ s, so = some s → SrtV K (upd H6 p7 (.tup [.int m, .str z, y])) s y ∧ s.ok nk ck 3 := fun s e => ⟨(h16 s e).1.kpT k7 (fun b m => nomatch m), (h16 s e).2⟩
    generalize upd H6 p7 (.tup [.int m, .str z, y]) = H7 at k7 h7 sc7 st7 h17 ⊢
    have k9 : Kp [p4, p5] H7 (upd (upd H7 p4 (.lst (xs ++ [.ref p7]))) p5 (.lst ((cs.map (·.num)).map V.int ++ [.int m]))) := (Kp.refl.upd_in List.mem_cons_self).upd_in (List.mem_cons_of_mem _ List.mem_cons_self)
    have l9 : ∀ b ∈ [p4, p5], NoT H7 b := fun b m => by
      rcases List.mem_cons.mp m with rfl | m
      · exact noT_lst st7.h4
      · rw [List.mem_singleton.mp m]
        exact noT_lst st7.h5
    refine q _ (cs ++ [⟨m, z, so, y⟩]) (xs ++ [.ref p7]) ((sc7.upd n4 m4).upd n5 m5) (((k6.trans k7).mono fun a m => nomatch m).trans k9) ⟨paired_snoc (paired_imp (fun _ _ g => g.kpT k9 l9) st7.at_) ?_, fun f hf => ?_, fun f hf => ?_, ?_, ?_, (upd_ne p45).trans upd_same, ?_, ?_, fun _ e => ?_⟩
    · exact ⟨⟨p7, rfl, SqT.of (k9.at_ (fun m => by rcases List.mem_cons.mp m with e | m; exact p74 e.symm; exact p75 (List.mem_singleton.mp m).symm) h7)⟩, fun s e => (h17 s e).1.kpT k9 l9, h2⟩
    · rcases List.mem_append.mp hf with hf | hf
      · exact st7.ok f hf
      · rw [List.mem_singleton.mp hf]
        exact ⟨k0, k1, hz, fun s e => (h17 s e).2, h3⟩
    · rcases List.mem_append.mp hf with hf | hf
      · exact List.mem_append_left _ (st7.nm f hf)
      · rw [List.mem_singleton.mp hf]
        exact List.mem_append_right _ List.mem_cons_self
    · rw [List.map_append]
      refine nodup_snoc st7.nd fun m => ?_
      obtain ⟨f, hf, e⟩ := List.mem_map.mp m
      exact nz ((show f.name = z from e) ▸ st7.nm f hf)
    · rw [List.map_append]
      exact nodup_snoc st7.nn c
    · rw [upd_same, List.map_append, List.map_append]
      rfl
    · rw [List.length_append, List.length_append]
      have := st7.le
      simpa using this
    · simp at e
theorem cases_0 {kk : V} {z : Str} {u7 u8 u9 : Option V} (sc : SW H0 S n H) (hn : n ≤ 9000000) (AS : A ≠ S) (BS : B ≠ S) (hA : Nms H0 A zs) (hB : Nms H0 B ws) (n4 : H0 p4 = none) (n5 : H0 p5 = none) (m4 : p4 ∉ [S]) (m5 : p5 ∉ [S]) (p45 : p4 ≠ p5) (st : CSt K (· ∈ zs) (· ∈ ws) names p4 p5 H cs xs) (nl : names.length ≤ 10) (hz : NameOk z) (nz : z ∉ names)
    (q : ∀ H' cs' xs' u7 u8, SW H0 S (n + 110) H' → Kp [S, p4, p5] H H' → CSt K (· ∈ zs) (· ∈ ws) (names ++ [z]) p4 p5 H' cs' xs' → D.nx [some (.ref S), some (.ref A), some (.ref B), some kk, some (.ref p4), some (.ref p5), some (.str z), u7, u8, u9] H') :
    b_law_cases_0 K D [some (.ref S), some (.ref A), some (.ref B), some kk, some (.ref p4), some (.ref p5), some (.str z), u7, u8, u9] H := by
  have AS' : A ∉ [S] := fun m => AS (List.mem_singleton.mp m)
  have BS' : B ∉ [S] := fun m => BS (List.mem_singleton.mp m)
  unfold b_law_cases_0
  walk_at "go"
  rename_i H1 r1 sc1 k1 r2 r3 H2 r4 sc2 k2 r5 r6 p6 np6 H3 r7 sc3 k3 r8 r9
  have hp6 : H3 p6 = some (.lst [.int r1, .int r4]) := k3.at_ (sc2.nm np6) upd_same
  obtain ⟨x, hx, ex⟩ := ix_mem (xs := [V.int r1, V.int r4]) r8 r9
  have hx2 : ∃ m : Int, x = .int m ∧ 0 ≤ m ∧ m ≤ 99 := by
    simp only [List.mem_cons, List.not_mem_nil, or_false] at hx
    rcases hx with rfl | rfl
    · exact ⟨_, rfl, by omega, by omega⟩
    · exact ⟨_, rfl, by omega, by omega⟩
  obtain ⟨m, rfl, m0, m1⟩ := hx2
  refine ixL_go (SqL.of hp6) ex ?_
  have kk : Kp [S] H H3 := k1.trans (k2.trans ((Kp.refl.upd_new' np6).trans k3))
  have st3 := st.kp kk sc.2.noT m4 m5
  walk_at "go"
  refine lsort_go sc3 (by omega) AS BS (hA.kp sc3.1 AS') (hB.kp sc3.1 BS') (by decide) (by decide) fun H4 y s sc4 k4 sv sok sm => ?_
  have st4 := st3.kp k4 sc3.2.noT m4 m5
  walk_at "go"
  rename_i p7 np7 H5 r10 sc5 k5 r11 r12
  have k7 : Kp [] H4 (upd H4 p7 (.lst [.non, y])) := Kp.refl.upd_new' np7
  have sc7 : SW H0 S (n + 1 + 1 + 1 + 30 * (2 + 1)) (upd H4 p7 (.lst [.non, y])) := sc4.new np7
  have hp7 : H5 p7 = some (.lst [.non, y]) := k5.at_ (sc4.nm np7) upd_same
  have cn : Cont K (· ∈ zs) (· ∈ ws) H5 .non ∧ Cont K (· ∈ zs) (· ∈ ws) H5 y := ⟨.inl rfl, .inr ⟨s, (sv.kpT k7 fun b m => nomatch m).kpT k5 sc7.2.noT, Srt.ok_up sok⟩⟩
  obtain ⟨x, hx, ex⟩ := ix_mem (xs := [V.non, y]) r11 r12
  have cx : Cont K (· ∈ zs) (· ∈ ws) H5 x := by
    simp only [List.mem_cons, List.not_mem_nil, or_false] at hx
    rcases hx with rfl | rfl
    · exact cn.1
    · exact cn.2
  refine ixL_go (SqL.of hp7) ex ?_
  have st5 := (st4.kp0 k7).kp k5 sc7.2.noT m4 m5
  walk_at "go"
  refine cases_1 sc5 n4 n5 m4 m5 p45 st5 nl m0 m1 hz nz cx fun H6 cs' xs' sc6 k6 st6 => ?_
  have kS : Kp [S, p4, p5] H H5 := (kk.trans (k4.trans ((k7.mono fun a m => nomatch m).trans k5))).mono fun a m => by rw [List.mem_singleton.mp m]; exact List.mem_cons_self
  exact q _ cs' xs' _ _ (sc6.mono (by omega)) (kS.trans (k6.mono fun a m => List.mem_cons_of_mem _ m)) st6
theorem cases_3 {c : Cse} {x u : V} {j : Nat} (sc : SW H0 S n H) (BS : B ≠ S) (hB : Nms H0 B ws) (n4 : H0 p4 = none) (m4 : p4 ∉ [S]) (st : CSt K nk (· ∈ ws) names p4 p5 H cs xs) (hc : cs[j]? = some c) (mn : ∀ d ∈ cs, c.num ≤ d.num)
    (cv : CseV K H c x)
    (q : ∀ H' cs' xs', SW H0 S n H' → H' p4 = some (.lst xs') → Paired (CseV K H') cs' xs' → (∀ c ∈ cs', c.ok nk (· ∈ ws)) → (cs'.map (·.name)).Nodup → (cs'.map (·.num)).Nodup → cs' ≠ [] → xs'.length ≤ names.length → Low ws k cs' → D.rt (.ref p4) H') :
    b_law_cases_3 K D [some (.ref S), some (.ref A), some (.ref B), some (.int (k : Nat)), some (.ref p4), some (.ref p5), some (.str c.name), some (.int c.num), some c.y, some (.int (j : Nat))] H := by
  have BS' : B ∉ [S] := fun m => BS (List.mem_singleton.mp m)
  have mc : c ∈ cs := List.mem_of_getElem? hc
  have end1 : (∀ z', c.s = some (.pick z') → k < plc ws z') → D.rt (.ref p4) H := fun h => q _ cs xs sc st.h4 st.at_ st.ok st.nd st.nn (fun e => by rw [e] at mc; exact nomatch mc) st.le (low_of st.nn mc mn h)
  have hB1 := (hB.kp sc.1 BS').1
  unfold b_law_cases_3
  cases e : c.s with
  | none =>
    rw [cv.non e]
    walk_at "go"
    exact end1 fun z' e' => by rw [e] at e'; cases e'
  | some s =>
    have sv := cv.srt s e
    by_cases hp : ∃ z', s = .pick z'
    · obtain ⟨z', rfl⟩ := hp
      obtain ⟨a, ea, ha⟩ := sv
      have zw : z' ∈ ws := by
        have := (st.ok c mc).srt _ e
        unfold Srt.ok at this
        exact this
      rw [ea]
      walk_at "go"
      · unfold tNil
        dsimp only
        refine idxS_go (SqL.of hB1) zw ?_
        walk_at "go"
        · rename_i c1 p6 np6 p7 np7
          have p76 : p6 ≠ p7 := ne_of_none upd_same np7
          have k7 : Kp [] H (upd (upd H p6 (.tup [.str "truth"])) p7 (.tup [.int c.num, .str c.name, .ref p6])) := (Kp.refl.upd_new' np6).upd_new' np7
          have sc7 : SW H0 S n (upd (upd H p6 (.tup [.str "truth"])) p7 (.tup [.int c.num, .str c.name, .ref p6])) := (sc.new np6).new np7
          have h7 : (upd (upd H p6 (.tup [.str "truth"])) p7 (.tup [.int c.num, .str c.name, .ref p6])) p7 = some (.tup [.int c.num, .str c.name, .ref p6]) := upd_same
          have h6 : (upd (upd H p6 (.tup [.str "truth"])) p7 (.tup [.int c.num, .str c.name, .ref p6])) p6 = some (.tup [.str "truth"]) := (upd_ne p76).trans upd_same
          have st7 := st.kp0 k7
          generalize upd (upd H p6 (.tup [.str "truth"])) p7 (.tup [.int c.num, .str c.name, .ref p6]) = H7 at k7 sc7 h7 h6 st7 ⊢
          have jl : j < cs.length := (List.getElem?_eq_some_iff.mp hc).1
          have fl : cs.length = xs.length := paired_len st.at_
          refine set_go st7.h4 (ixN_at (by omega)) ?_
          walk_at "go"
          have k8 : Kp [p4] H7 (upd H7 p4 (.lst (xs.set j (.ref p7)))) := Kp.refl.upd_in List.mem_cons_self
          have l8 : ∀ b ∈ [p4], NoT H7 b := fun b m => by
            rw [List.mem_singleton.mp m]
            exact noT_lst st7.h4
          have e1 : (cs.set j ⟨c.num, c.name, some .truth, .ref p6⟩).map (·.num) = cs.map (·.num) := set_map hc rfl
          have e2 : (cs.set j ⟨c.num, c.name, some .truth, .ref p6⟩).map (·.name) = cs.map (·.name) := set_map hc rfl
          have mc' : (⟨c.num, c.name, some .truth, .ref p6⟩ : Cse) ∈ cs.set j ⟨c.num, c.name, some .truth, .ref p6⟩ := List.mem_of_getElem? (i := j) (by rw [List.getElem?_set_self jl])
          refine q _ (cs.set j ⟨c.num, c.name, some .truth, .ref p6⟩) (xs.set j (.ref p7)) (sc7.upd n4 m4) upd_same (paired_set j (paired_imp (fun _ _ g => g.kpT k8 l8) st7.at_) ⟨⟨p7, rfl, SqT.of (k8.at_ (fun m => ?_) h7)⟩, fun s es => ?_, fun es => by cases es⟩) (fun d hd => ?_) (by rw [e2]; exact st.nd) (by rw [e1]; exact st.nn) (fun e0 => by rw [e0] at mc'; exact nomatch mc') (by rw [List.length_set]; exact st.le) (low_of (by rw [e1]; exact st.nn) mc' (fun d hd => ?_) fun z e0 => by cases e0)
          · have h4 := st7.h4
            rw [← List.mem_singleton.mp m, h7] at h4
            cases h4
          · cases es
            exact ⟨p6, rfl, SqT.of (k8.at_ (fun m => by have h4 := st7.h4; rw [← List.mem_singleton.mp m, h6] at h4; cases h4) h6)⟩
          · rcases List.mem_or_eq_of_mem_set hd with hd | hd
            · exact st.ok d hd
            · rw [hd]
              have o := st.ok c mc
              exact ⟨o.lo, o.hi, o.name, (fun s e0 => by cases e0; unfold Srt.ok; trivial), fun e0 => absurd (o.zero e0) (by rw [e]; simp)⟩
          · rcases List.mem_or_eq_of_mem_set hd with hd | hd
            · exact mn d hd
            · rw [hd]
              exact Int.le_refl _
        · rename_i c1
          exact end1 fun z2 e2 => by
            rw [e] at e2
            cases e2
            omega
    · obtain ⟨a, w, r, ea, ha, hw⟩ := sv.tup2 fun z' e => hp ⟨z', e⟩
      rw [ea]
      walk_at "go"
      · exact absurd (by assumption) hw
      · exact end1 fun z2 e2 => by
          rw [e] at e2
          cases e2
          exact absurd rfl (fun h => hp ⟨_, h⟩)
theorem cases_2 {u6 u7 u8 u9 : Option V} (sc : SW H0 S n H) (BS : B ≠ S) (hB : Nms H0 B ws) (n4 : H0 p4 = none) (m4 : p4 ∉ [S]) (st : CSt K nk (· ∈ ws) names p4 p5 H cs xs) (ne : names ≠ []) (nl : names.length ≤ 10)
    (q : ∀ H' cs' xs', SW H0 S n H' → H' p4 = some (.lst xs') → Paired (CseV K H') cs' xs' → (∀ c ∈ cs', c.ok nk (· ∈ ws)) → (cs'.map (·.name)).Nodup → (cs'.map (·.num)).Nodup → cs' ≠ [] → xs'.length ≤ names.length → Low ws k cs' → D.rt (.ref p4) H') :
    b_law_cases_2 K D [some (.ref S), some (.ref A), some (.ref B), some (.int (k : Nat)), some (.ref p4), some (.ref p5), u6, u7, u8, u9] H := by
  unfold b_law_cases_2
  have h5 := st.h5
  walk_at "go"
  have cne : cs ≠ [] := st.ne ne
  have hl : 0 < (cs.map (·.num)).length := by
    rw [List.length_map]
    exact List.length_pos_iff.mpr cne
  unfold tNil
  dsimp only
  refine min_goI (SqL.of h5) hl fun m hm mn => ?_
  refine idxI_go (SqL.of h5) hm fun j ej => ?_
  rw [List.getElem?_map] at ej
  obtain ⟨c, hc, rfl⟩ := Option.map_eq_some_iff.mp ej
  obtain ⟨x, ex, cv⟩ := paired_ix st.at_ hc
  obtain ⟨a, rfl, ha⟩ := cv.at_
  walk_at "go"
  refine ixL_go (SqL.of st.h4) (atI_nat ex) ?_
  walk_at "go"
  exact cases_3 (x := .ref a) (u := .non) sc BS hB n4 m4 st hc (fun d hd => mn _ (List.mem_map.mpr ⟨d, hd, rfl⟩)) cv q
end
theorem cases_go {K : PySem.W.Frag} {H0 H : Hp} {S A B : Addr} {n k : Nat} {zs ws : List Str} (sc : SW H0 S n H) (hn : n ≤ 1000000) (AS : A ≠ S) (BS : B ≠ S) (hA : Nms H A zs) (hB : Nms H B ws) {Q : VK} {E : XK}
    (q : ∀ H' p cs xs, SW H0 S (n + 1000) H' → Kp [S] H H' → H p = none → H' p = some (.lst xs) → RowC K H' (· ∈ zs) (· ∈ ws) cs xs → xs.length ≤ 10 → Low ws k cs → Q (.ref p) H') : sp_law_cases K [.ref S, .ref A, .ref B, .int (k : Nat)] H Q E := by
  unfold sp_law_cases
  exact ⟨S, A, B, n, zs, ws, k, rfl, sc.2, hn, AS, BS, hA, hB, fun H' p cs xs k w np hp rf l lo => q H' p cs xs ⟨sc.1.trans k, w⟩ k np hp rf l lo⟩
theorem p_law_cases (K : PySem.W.Frag) (vs : List V) (H : Hp) (Q : VK) (E : XK) (h : sp_law_cases K vs H Q E) : t_law_cases K { nx := fun _ H' => Q .non H', rt := Q } (start ["_law_well_here", "_law_nodes", "_law_some", "_law_k", "_law_found", "_law_numbers", "_law_name", "_law_number_here", "_law_of", "_law_least"] vs) H := by
  unfold sp_law_cases at h
  obtain ⟨S, A, B, n, zs, ws, k, rfl, w, hn, AS, BS, hA, hB, q⟩ := h
  have sc : SW H S n H := ⟨Kp.refl, w⟩
  walk_at "go"
  rename_i p4 np4 p5 np5 H1 r1 sc1 k1 r2 r3
  have m4 : p4 ∉ [S] := sc.nm np4
  have m5 : p5 ∉ [S] := (sc.new np4).nm np5
  have n5 : H p5 = none := (sc.new np4).was np5
  have p45 : p4 ≠ p5 := ne_of_none upd_same np5
  have h4 : H1 p4 = some (.lst []) := k1.at_ m4 ((upd_ne p45).trans upd_same)
  have h5 : H1 p5 = some (.lst []) := k1.at_ m5 upd_same
  show sp_law_names K [.ref S, .int (1 + r1)] H1 _ _
  refine names_go sc1 (by omega) (by omega) (by omega) fun H2 p6 nms sc2 k2 n6 hN hl nd ok => ?_
  have p6S : p6 ≠ S := sc1.2.ne n6
  have p64 : p6 ≠ p4 := (ne_of_none h4 n6).symm
  have p65 : p6 ≠ p5 := (ne_of_none h5 n6).symm
  have nm6 : p6 ∉ [S, p4, p5] := fun m => by
    simp only [List.mem_cons, List.not_mem_nil, or_false] at m
    rcases m with e | e | e
    · exact p6S e
    · exact p64 e
    · exact p65 e
  have st2 : CSt K (· ∈ zs) (· ∈ ws) [] p4 p5 H2 [] [] := ⟨.nil, (fun f h => nomatch h), (fun f h => nomatch h), List.nodup_nil, List.nodup_nil, k2.at_ m4 h4, k2.at_ m5 h5, Nat.le_refl _, fun e => absurd rfl e⟩
  refine ⟨p6, rfl, ⟨_, SqL.of hN.1⟩, ?_⟩
  refine for_it (walk_list (xs := nms.map V.str)) (fun i σ H' => ∃ cs xs u6 u7 u8, σ = [some (.ref S), some (.ref A), some (.ref B), some (.int (k : Nat)), some (.ref p4), some (.ref p5), u6, u7, u8, none] ∧ SW H S (n + 101 + 110 * i) H' ∧ Kp [S, p4, p5] H2 H' ∧ CSt K (· ∈ zs) (· ∈ ws) (nms.take i) p4 p5 H' cs xs)
    ⟨[], [], _, _, _, rfl, sc2.mono (by omega), Kp.refl, st2⟩ (fun i σ H' _ ⟨_, _, _, _, _, _, _, k, _⟩ => SqL.of (k.at_ nm6 hN.1)) ?_ (fun σ H' h => ?_)
  · rintro i x σ Ha Hb hi ⟨cs, xs, u5, u6, u7, rfl, sca, ka, st⟩ ⟨rfl, ex⟩
    rw [List.getElem?_map] at ex
    obtain ⟨z, ez, rfl⟩ := Option.map_eq_some_iff.mp ex
    have hz := ok z (List.mem_of_getElem? ez)
    have nz : z ∉ nms.take i := nodup_take nd ez
    have hi5 : i < 6 := by rw [List.length_map] at hi; omega
    walk_at "go"
    refine cases_0 sca (by omega) AS BS hA hB np4 n5 m4 m5 p45 st (by rw [List.length_take]; omega) hz nz fun H3 cs' xs' u6 u7 sc3 k3 st3 => ?_
    rw [← take_snoc ez] at st3
    exact ⟨cs', xs', _, _, _, rfl, sc3.mono (by omega), ka.trans k3, st3⟩
  · obtain ⟨cs, xs, u5, u6, u7, rfl, sca, ka, st⟩ := h
    rw [List.length_map] at sca st
    rw [List.take_length] at st
    have nne : nms ≠ [] := fun e => by
      rw [e] at hl
      simp at hl
      omega
    refine cases_2 (k := k) sca BS hB np4 m4 st nne (by omega) fun H3 cs' xs' sc3 h3 pr okc nd1 nn1 ne1 le1 lo => ?_
    exact q _ p4 cs' xs' sc3.1 (sc3.2.mono (by omega)) np4 h3 ⟨pr, okc, nd1, nn1, ne1, by omega⟩ (by omega) lo
end K02

-- imports: K02S6 K02L0 K02L1 K02L2 K02L3 K02L4 K02L5 K02L6
/-! ## k02: parts drawn -/
namespace K02
open PySem PySem.Spec PyProof.Rows L2 Kb
theorem mergeK_self : ∀ (kvs acc : List (L2.Key × V)), ((acc ++ kvs).map (·.1)).Nodup → mergeK acc kvs = acc ++ kvs
  | [], acc, _ => by simp [mergeK]
  | (k, v) :: r, acc, h => by
    have h1 : valV acc k = none := by
      have h2 : ∀ q ∈ acc, q.1 ≠ k := fun q hq e => by
        rw [List.map_append] at h
        exact (List.nodup_append.mp h).2.2 q.1 (List.mem_map_of_mem hq) k (by simp) e
      unfold valV
      rw [List.find?_eq_none.mpr (fun q hq => by simp [h2 q hq])]
      rfl
    show mergeK (putK acc k v) r = _
    rw [putK_new v h1, mergeK_self r _ (by simpa using h), List.append_assoc]
    rfl
/-- v is a pair of a key and a value -/
def PairKv {α : Type} (K : PySem.W.Frag) (H : Hp) (f : α → L2.Key × V) (r : α) (v : V) : Prop := ∃ t, v = .ref t ∧ SqT K H t [kV (f r).1, (f r).2]
theorem PairKv.kpT {α : Type} {K : PySem.W.Frag} {H H' : Hp} {M : List Addr} {f : α → L2.Key × V} {r : α} {v : V} (h : PairKv K H f r v) (k : Kp M H H') (l : ∀ b ∈ M, NoT H b) : PairKv K H' f r v := by
  obtain ⟨t, e, g⟩ := h
  exact ⟨t, e, sqT_kpT k l g⟩
theorem pair_refs {α : Type} {K : PySem.W.Frag} {H : Hp} {f : α → L2.Key × V} : ∀ {rows : List α} {acc : List V}, Paired (PairKv K H f) rows acc → ∃ ps : List Addr, acc = ps.map V.ref ∧ Paired (fun p kv => SqT K H p [kV kv.1, kv.2]) ps (rows.map f)
  | _, _, .nil => ⟨[], rfl, .nil⟩
  | _, _, .cons ⟨t, e, g⟩ tl => by
    obtain ⟨ps, e2, g2⟩ := pair_refs tl
    exact ⟨t :: ps, by rw [e, e2]; rfl, .cons g g2⟩
theorem dictP_go {α : Type} {K : PySem.W.Frag} {H : Hp} {Q : VK} {D : Addr} {acc : List V} {f : α → L2.Key × V} {rows : List α} (hD : SqL K H D acc) (pr : Paired (PairKv K H f) rows acc) (nd : ((rows.map f).map (·.1)).Nodup) (q : ∀ p, H p = none → Q (.ref p) (upd H p (.dK (rows.map f)))) : rDictU K [.ref D] H Q := by
  obtain ⟨ps, rfl, g⟩ := pair_refs pr
  unfold rDictU
  refine ⟨D, rfl, .inr (.inl ⟨ps, rows.map f, hD, g, ?_⟩)⟩
  rw [mergeK_self (rows.map f) [] nd]
  exact q
theorem Srt.ok_mono {nk ck nk' ck' : Str → Prop} (h1 : ∀ z, nk z → nk' z) (h2 : ∀ z, ck z → ck' z) : ∀ {s : Srt} {d : Nat}, s.ok nk ck d → s.ok nk' ck' d
  | .num _ _, d, h => by cases d <;> exact h
  | .truth, d, h => by cases d <;> exact h
  | .text _, d, h => by cases d <;> exact h
  | .node k, d, h => by cases d <;> exact h1 k h
  | .pick k, d, h => by cases d <;> exact h2 k h
  | .row _ s, 0, h => h.elim
  | .row _ s, d + 1, ⟨a, b, h⟩ => ⟨a, b, Srt.ok_mono h1 h2 (s := s) h⟩
  | .maybe s, 0, h => h.elim
  | .maybe s, d + 1, ⟨a, b⟩ => ⟨Srt.ok_mono h1 h2 (s := s) a, b⟩
section
variable {K : PySem.W.Frag} {H H' : Hp} {M : List Addr} {nk ck nk' ck' : Str → Prop} {fls : List Fld} {cs : List Cse} {xs : List V}
theorem RowF.mono (h : RowF K H nk ck fls xs) (h1 : ∀ z, nk z → nk' z) (h2 : ∀ z, ck z → ck' z) : RowF K H nk' ck' fls xs :=
  ⟨h.at_, fun f hf => ⟨(h.ok f hf).lo, (h.ok f hf).hi, (h.ok f hf).name, Srt.ok_mono h1 h2 (h.ok f hf).srt⟩, h.names, h.nums, h.le⟩
theorem RowC.mono (h : RowC K H nk ck cs xs) (h1 : ∀ z, nk z → nk' z) (h2 : ∀ z, ck z → ck' z) : RowC K H nk' ck' cs xs :=
  ⟨h.at_, fun f hf => ⟨(h.ok f hf).lo, (h.ok f hf).hi, (h.ok f hf).name, fun s e => Srt.ok_mono h1 h2 ((h.ok f hf).srt s e), (h.ok f hf).zero⟩, h.names, h.nums, h.ne, h.le⟩
theorem RowF.kpT (h : RowF K H nk ck fls xs) (k : Kp M H H') (l : ∀ b ∈ M, NoT H b) : RowF K H' nk ck fls xs := ⟨paired_imp (fun _ _ g => g.kpT k l) h.at_, h.ok, h.names, h.nums, h.le⟩
theorem RowC.kpT (h : RowC K H nk ck cs xs) (k : Kp M H H') (l : ∀ b ∈ M, NoT H b) : RowC K H' nk ck cs xs := ⟨paired_imp (fun _ _ g => g.kpT k l) h.at_, h.ok, h.names, h.nums, h.ne, h.le⟩
/-- a row of fields drawn, in a list of its own -/
structure KIn (K : PySem.W.Frag) (nk ck : Str → Prop) (H1 H : Hp) (D : Addr) (r : KRow) : Prop where
  name : NameOk r.name
  lst : H r.adr = some (.lst r.xs)
  row : RowF K H nk ck r.fls r.xs
  le : r.xs.length ≤ 10
  was : H1 r.adr = none
  ne : r.adr ≠ D
structure CIn (K : PySem.W.Frag) (nk : Str → Prop) (ws : List Str) (H1 H : Hp) (D : Addr) (r : CRow) : Prop where
  name : NameOk r.name
  lst : H r.adr = some (.lst r.xs)
  row : RowC K H nk (· ∈ ws) r.cs r.xs
  le : r.xs.length ≤ 10
  was : H1 r.adr = none
  ne : r.adr ≠ D
  low : ∃ j, ws[j]? = some r.name ∧ Low ws j r.cs
theorem KIn.kp {H1 : Hp} {D : Addr} {r : KRow} (h : KIn K nk ck H1 H D r) (k : Kp M H H') (l : ∀ b ∈ M, NoT H b) (n : r.adr ∉ M) : KIn K nk ck H1 H' D r := ⟨h.name, k.at_ n h.lst, h.row.kpT k l, h.le, h.was, h.ne⟩
theorem CIn.kp {ws : List Str} {H1 : Hp} {D : Addr} {r : CRow} (h : CIn K nk ws H1 H D r) (k : Kp M H H') (l : ∀ b ∈ M, NoT H b) (n : r.adr ∉ M) : CIn K nk ws H1 H' D r := ⟨h.name, k.at_ n h.lst, h.row.kpT k l, h.le, h.was, h.ne, h.low⟩
end
theorem nodup_inr {α : Type} {f : α → Str} : ∀ {rows : List α}, (rows.map f).Nodup → (rows.map fun r => (Sum.inr (f r) : L2.Key)).Nodup
  | [], _ => List.nodup_nil
  | r :: rows, h => by
    rw [List.map_cons, List.nodup_cons] at h ⊢
    refine ⟨fun m => ?_, nodup_inr h.2⟩
    obtain ⟨x, hx, e⟩ := List.mem_map.mp m
    exact h.1 (List.mem_map.mpr ⟨x, hx, Sum.inr.inj e⟩)
theorem plc_at {ws : List Str} (nd : ws.Nodup) {j : Nat} {z : Str} (e : ws[j]? = some z) : plc ws z = j := by
  unfold plc
  have hl := (List.getElem?_eq_some_iff.mp e).1
  refine Nat.le_antisymm ?_ ?_
  · refine Nat.le_of_not_lt fun c => ?_
    have := List.not_of_lt_findIdx c
    rw [List.getElem?_eq_getElem hl] at e
    rw [Option.some.inj e] at this
    simp at this
  · refine Nat.le_of_not_lt fun c => ?_
    have m : z ∈ ws := List.mem_of_getElem? e
    have hl2 : ws.findIdx (fun w => decide (w = z)) < ws.length := Nat.lt_trans c hl
    have e2 := List.findIdx_getElem (w := hl2)
    simp only [decide_eq_true_eq] at e2
    refine nodup_take nd e ?_
    rw [← e2]
    exact List.mem_of_getElem? (i := ws.findIdx fun w => decide (w = z)) (by rw [List.getElem?_take_of_lt c, List.getElem?_eq_getElem hl2, e2])
section
variable {K : PySem.W.Frag} {H0 H : Hp} {S A B : Addr} {D : Ends} {n : Nat} {zs ws : List Str}
theorem parts_0 {u3 u4 u5 u6 : Option V} (sc : SW H0 S n H) (hn : n ≤ 900000) (AS : A ≠ S) (BS : B ≠ S) (hA : Nms H A zs) (hB : Nms H B ws) (okA : ∀ z ∈ zs, NameOk z) (ndA : zs.Nodup)
    (q : ∀ H' D1 E (FK : List KRow), SW H S (n + 10000) H' → H D1 = none → H' D1 = some (.dK (FK.map KRow.kv)) → FK.map (·.name) = zs → (∀ r ∈ FK, KIn K (· ∈ zs) (· ∈ ws) H H' E r) → b_law_parts_1 K D [some (.ref S), some (.ref A), some (.ref B), some (.ref D1), u4, u5, u6] H') :
    b_law_parts_0 K D [some (.ref S), some (.ref A), some (.ref B), u3, u4, u5, u6] H := by
  have AS' : A ∉ [S] := fun m => AS (List.mem_singleton.mp m)
  have BS' : B ∉ [S] := fun m => BS (List.mem_singleton.mp m)
  have scH : SW H S n H := ⟨Kp.refl, sc.2⟩
  unfold b_law_parts_0
  have hA1 := hA.1
  walk_at "go"
  refine ⟨⟨_, SqL.of hA1⟩, fun E nE => ?_⟩
  refine lc_acc (walk_list (xs := zs.map V.str)) (fun i acc H' => SW H S (n + 1000 * i) H' ∧ ∃ rows : List KRow, rows.map (·.name) = zs.take i ∧ Paired (PairKv K H' KRow.kv) rows acc ∧ ∀ r ∈ rows, KIn K (· ∈ zs) (· ∈ ws) H H' E r) ⟨scH.new nE, [], rfl, .nil, fun r h => nomatch h⟩ (fun i acc H' _ h => SqL.of (h.1.1.at_ AS' hA1)) (fun i x acc Hc Hd hi hl hD hP hY => ?_) (fun acc Hc hl hD hP => ?_)
  · obtain ⟨scb, rows, rn, pr, kin⟩ := hP
    obtain ⟨rfl, ex⟩ := hY
    rw [List.getElem?_map] at ex
    obtain ⟨z, ez, rfl⟩ := Option.map_eq_some_iff.mp ex
    have hz := okA z (List.mem_of_getElem? ez)
    have hz10 : zs.length ≤ 10 := hA.2
    have hi10 : i < 10 := by rw [List.length_map] at hi; omega
    refine ⟨rfl, ?_⟩
    walk_at "go"
    show sp_law_fields K [.ref S, .ref A, .ref B] Hd _ _
    refine fields_go scb (by omega) AS BS (hA.kp scb.1 AS') (hB.kp scb.1 BS') fun H2 p fls xs sc2 k2 np hp rf lx => ?_
    have nEm : E ∉ [S] := scH.nm nE
    have hD2 : H2 E = some (.lst acc) := k2.at_ nEm hD
    have pE : p ≠ E := (ne_of_none hD np).symm
    walk_at "go"
    rename_i t nt
    have tE : E ≠ t := ne_of_none hD2 nt
    have kp2 : Kp [E] H2 (upd (upd H2 t (.tup [.str z, .ref p])) E (.lst (acc ++ [.ref t]))) := (Kp.refl.upd_new' nt).upd_in List.mem_cons_self
    have l2 : ∀ b ∈ [E], NoT H2 b := fun b m => by rw [List.mem_singleton.mp m]; exact noT_lst hD2
    refine acc_go hl (by omega) ((upd_ne tE).trans hD2) ⟨((sc2.new nt).upd nE nEm).mono (by omega), rows ++ [⟨z, p, fls, xs⟩], by rw [List.map_append, rn, take_snoc ez]; rfl, paired_snoc (paired_imp (fun _ _ g => (g.kpT k2 scb.2.noT).kpT kp2 l2) pr) ⟨t, rfl, SqT.of ((upd_ne tE.symm).trans upd_same)⟩, fun r hr => ?_⟩
    rcases List.mem_append.mp hr with hr | hr
    · have k := kin r hr
      have rS : r.adr ∉ [S] := fun m => by
        have := k.lst
        rw [List.mem_singleton.mp m] at this
        have w := k.was
        rw [List.mem_singleton.mp m] at w
        obtain ⟨_, e⟩ := sc.2.lst
        rw [w] at e
        cases e
      exact (k.kp k2 scb.2.noT rS).kp kp2 l2 fun m => k.ne (List.mem_singleton.mp m)
    · rw [List.mem_singleton.mp hr]
      exact ⟨hz, kp2.at_ (fun m => pE (List.mem_singleton.mp m)) hp, rf.kpT kp2 l2, lx, scb.was np, pE⟩
  · obtain ⟨scb, rows, rn, pr, kin⟩ := hP
    rw [List.length_map, List.take_length] at rn
    have hz10 : zs.length ≤ 10 := hA.2
    have nd : ((rows.map KRow.kv).map (·.1)).Nodup := by
      rw [List.map_map]
      rw [← rn] at ndA
      exact nodup_inr ndA
    show rDictU K [.ref E] Hc _
    refine dictP_go (SqL.of hD) pr nd fun p np => ?_
    walk_at "go"
    rw [List.length_map] at scb
    exact q _ p E rows ((scb.new np).mono (by omega)) (scb.was np) upd_same rn fun r hr => (kin r hr).kp (Kp.refl.upd_new' np) (fun b m => absurd m List.not_mem_nil) List.not_mem_nil
theorem parts_1 {u4 u5 u6 : Option V} {v3 : V} (sc : SW H0 S n H) (hn : n ≤ 900000) (AS : A ≠ S) (BS : B ≠ S) (hA : Nms H A zs) (hB : Nms H B ws) (okB : ∀ z ∈ ws, NameOk z) (ndB : ws.Nodup)
    (q : ∀ H' D2 E (CK : List CRow), SW H S (n + 10000) H' → H D2 = none → H' D2 = some (.dK (CK.map CRow.kv)) → CK.map (·.name) = ws → (∀ r ∈ CK, CIn K (· ∈ zs) ws H H' E r) → b_law_parts_2 K D [some (.ref S), some (.ref A), some (.ref B), some v3, some (.ref D2), u5, u6] H') :
    b_law_parts_1 K D [some (.ref S), some (.ref A), some (.ref B), some v3, u4, u5, u6] H := by
  have AS' : A ∉ [S] := fun m => AS (List.mem_singleton.mp m)
  have BS' : B ∉ [S] := fun m => BS (List.mem_singleton.mp m)
  have scH : SW H S n H := ⟨Kp.refl, sc.2⟩
  have hB10 : ws.length ≤ 10 := hB.2
  unfold b_law_parts_1
  have hB1 := hB.1
  walk_at "go"
  rename_i E nE
  rw [Int.toNat_natCast, List.length_map]
  refine lc_acc walk_range (fun i acc H' => SW H S (n + 1000 * i) H' ∧ ∃ rows : List CRow, rows.map (·.name) = ws.take i ∧ Paired (PairKv K H' CRow.kv) rows acc ∧ ∀ r ∈ rows, CIn K (· ∈ zs) ws H H' E r) ⟨scH.new nE, [], rfl, .nil, fun r h => nomatch h⟩ (fun _ _ _ _ _ => trivial) (fun i x acc Hc Hd hi hl hD hP hY => ?_) (fun acc Hc hl hD hP => ?_)
  · obtain ⟨scb, rows, rn, pr, kin⟩ := hP
    obtain ⟨rfl, hx⟩ := hY
    obtain rfl : x = .int (i : Nat) := by
      rw [hx]
      show V.int (0 + (i : Int)) = _
      rw [Int.zero_add]
    obtain ⟨z, ez⟩ : ∃ z, ws[i]? = some z := ⟨ws[i], List.getElem?_eq_getElem hi⟩
    have hz := okB z (List.mem_of_getElem? ez)
    refine ⟨rfl, ?_⟩
    walk_at "go"
    refine ixL_go (x := .str z) (SqL.of (scb.1.at_ BS' hB1)) (atI_nat (by rw [List.getElem?_map, ez]; rfl)) ?_
    walk_at "go"
    show sp_law_cases K [.ref S, .ref A, .ref B, .int (i : Nat)] Hd _ _
    refine cases_go scb (by omega) AS BS (hA.kp scb.1 AS') (hB.kp scb.1 BS') fun H2 p cs xs sc2 k2 np hp rf lx lo => ?_
    have nEm : E ∉ [S] := scH.nm nE
    have hD2 : H2 E = some (.lst acc) := k2.at_ nEm hD
    have pE : p ≠ E := (ne_of_none hD np).symm
    walk_at "go"
    rename_i t nt
    have tE : E ≠ t := ne_of_none hD2 nt
    have kp2 : Kp [E] H2 (upd (upd H2 t (.tup [.str z, .ref p])) E (.lst (acc ++ [.ref t]))) := (Kp.refl.upd_new' nt).upd_in List.mem_cons_self
    have l2 : ∀ b ∈ [E], NoT H2 b := fun b m => by rw [List.mem_singleton.mp m]; exact noT_lst hD2
    refine acc_go hl (by omega) ((upd_ne tE).trans hD2) ⟨((sc2.new nt).upd nE nEm).mono (by omega), rows ++ [⟨z, p, cs, xs⟩], by rw [List.map_append, rn, take_snoc ez]; rfl, paired_snoc (paired_imp (fun _ _ g => (g.kpT k2 scb.2.noT).kpT kp2 l2) pr) ⟨t, rfl, SqT.of ((upd_ne tE.symm).trans upd_same)⟩, fun r hr => ?_⟩
    rcases List.mem_append.mp hr with hr | hr
    · have k := kin r hr
      have rS : r.adr ∉ [S] := fun m => by
        have w := k.was
        rw [List.mem_singleton.mp m] at w
        obtain ⟨_, e⟩ := sc.2.lst
        rw [w] at e
        cases e
      exact (k.kp k2 scb.2.noT rS).kp kp2 l2 fun m => k.ne (List.mem_singleton.mp m)
    · rw [List.mem_singleton.mp hr]
      exact ⟨hz, kp2.at_ (fun m => pE (List.mem_singleton.mp m)) hp, rf.kpT kp2 l2, lx, scb.was np, pE, i, ez, lo⟩
  · obtain ⟨scb, rows, rn, pr, kin⟩ := hP
    rw [List.take_length] at rn
    have nd : ((rows.map CRow.kv).map (·.1)).Nodup := by
      rw [List.map_map]
      rw [← rn] at ndB
      exact nodup_inr ndB
    show rDictU K [.ref E] Hc _
    refine dictP_go (SqL.of hD) pr nd fun p np => ?_
    walk_at "go"
    exact q _ p E rows ((scb.new np).mono (by omega)) (scb.was np) upd_same rn fun r hr => (kin r hr).kp (Kp.refl.upd_new' np) (fun b m => absurd m List.not_mem_nil) List.not_mem_nil
theorem parts_2 {u5 u6 : Option V} {D1 D2 : Addr} (sc : SW H0 S n H) (hn : n ≤ 900000) (AS : A ≠ S) (BS : B ≠ S) (hA : Nms H A zs) (hB : Nms H B ws)
    (q : ∀ H' p x s, SW H S (n + 100) H' → SqT K H' p [.ref D1, .ref D2, x] → SrtV K H' s x → s.ok (· ∈ zs) (· ∈ ws) 3 → D.rt (.ref p) H') :
    b_law_parts_2 K D [some (.ref S), some (.ref A), some (.ref B), some (.ref D1), some (.ref D2), u5, u6] H := by
  have scH : SW H S n H := ⟨Kp.refl, sc.2⟩
  unfold b_law_parts_2
  walk_at "go"
  show sp_law_sort K 3 [.ref S, .ref A, .ref B, .int 2] H _ _
  refine lsort_go scH (by omega) AS BS hA hB (by decide) (by decide) fun H1 x s sc1 k1 sv sok sm => ?_
  walk_at "go"
  rename_i p np
  exact q _ p x s ((sc1.new np).mono (by omega)) (SqT.of upd_same) (sv.kpT (Kp.refl.upd_new' np) fun b m => absurd m List.not_mem_nil) (Srt.ok_up sok)
end
theorem len_law_parts (K : PySem.W.Frag) : ∀ vs H Q E, sp_law_parts K vs H Q E → vs.length = ["_law_well_here"].length := by
  intro _ _ _ _ h
  unfold sp_law_parts at h
  obtain ⟨_, _, rfl, _⟩ := h
  rfl
theorem p_law_parts (K : PySem.W.Frag) (vs : List V) (H : Hp) (Q : VK) (E : XK) (h : sp_law_parts K vs H Q E) : t_law_parts K { nx := fun _ H' => Q .non H', rt := Q } (start ["_law_well_here", "_law_nodes", "_law_some", "_law_boxes", "_law_picks", "_law_name", "_law_k"] vs) H := by
  unfold sp_law_parts at h
  obtain ⟨S, n, rfl, w, hn, q⟩ := h
  have sc : SW H S n H := ⟨Kp.refl, w⟩
  walk_at "go"
  rename_i H1 r1 sc1 k1 r2 r3
  show sp_law_names K [.ref S, .int r1] H1 _ _
  refine names_go sc1 (by omega) (by omega) (by omega) fun H2 A zs sc2 k2 nA hA lA ndA okA => ?_
  have AS : A ≠ S := sc1.2.ne nA
  have AS' : A ∉ [S] := fun m => AS (List.mem_singleton.mp m)
  walk_at "go"
  rename_i H3 r4 sc3 k3 r5 r6
  show sp_law_names K [.ref S, .int r4] H3 _ _
  refine names_go sc3 (by omega) (by omega) (by omega) fun H4 B ws sc4 k4 nB hB lB ndB okB => ?_
  have BS : B ≠ S := sc3.2.ne nB
  have BS' : B ∉ [S] := fun m => BS (List.mem_singleton.mp m)
  have hA4 := (hA.kp k3 AS').kp k4 AS'
  walk_at "go"
  refine parts_0 sc4 (by omega) AS BS hA4 hB okA ndA fun H5 D1 E5 FK sc5 n1 h1 fn fin => ?_
  have SC5 : SW H S (n + 20000) H5 := ⟨sc4.1.trans sc5.1, sc5.2.mono (by omega)⟩
  refine parts_1 SC5 (by omega) AS BS (hA4.kp sc5.1 AS') (hB.kp sc5.1 BS') okB ndB fun H6 D2 E6 CK sc6 n2 h2 cn cin => ?_
  have SC6 : SW H S (n + 40000) H6 := ⟨SC5.1.trans sc6.1, sc6.2.mono (by omega)⟩
  refine parts_2 SC6 (by omega) AS BS ((hA4.kp sc5.1 AS').kp sc6.1 AS') ((hB.kp sc5.1 BS').kp sc6.1 BS') fun H7 p x s sc7 hp sv sok => ?_
  have l6 := SC6.2.noT
  have l5 := SC5.2.noT
  have D1S : D1 ≠ S := sc4.2.ne n1
  have D2S : D2 ≠ S := SC5.2.ne n2
  have D12 : D1 ≠ D2 := ne_of_none h1 n2
  have D1S' : D1 ∉ [S] := fun m => D1S (List.mem_singleton.mp m)
  have D2S' : D2 ∉ [S] := fun m => D2S (List.mem_singleton.mp m)
  have k57 : Kp [S] H5 H7 := sc6.1.trans sc7.1
  have notS : ∀ {G : Hp} {a : Addr} {m : Nat}, Wel G S m → G a = none → a ∉ [S] := fun w n m => (w.ne n) (List.mem_singleton.mp m)
  have kin7 : ∀ r ∈ FK, KIn K (· ∈ zs) (· ∈ ws) H4 H7 E5 r := fun r hr => (fin r hr).kp k57 l5 (notS sc4.2 (fin r hr).was)
  have cin7 : ∀ r ∈ CK, CIn K (· ∈ zs) ws H5 H7 E6 r := fun r hr => (cin r hr).kp sc7.1 l6 (notS SC5.2 (cin r hr).was)
  have h1k : ∀ z, z ∈ zs → keyIn (FK.map KRow.kv) z := fun z m => key_mem.mpr (by
    rw [← fn] at m
    obtain ⟨r, hr, e⟩ := List.mem_map.mp m
    exact List.mem_map.mpr ⟨r.kv, List.mem_map.mpr ⟨r, hr, rfl⟩, by rw [← e]; rfl⟩)
  have h2k : ∀ z, z ∈ ws → keyIn (CK.map CRow.kv) z := fun z m => key_mem.mpr (by
    rw [← cn] at m
    obtain ⟨r, hr, e⟩ := List.mem_map.mp m
    exact List.mem_map.mpr ⟨r.kv, List.mem_map.mpr ⟨r, hr, rfl⟩, by rw [← e]; rfl⟩)
  have lz : FK.length ≤ 10 := by rw [← List.length_map (f := fun r : KRow => r.name), fn]; exact hA.2
  have lw : CK.length ≤ 10 := by rw [← List.length_map (f := fun r : CRow => r.name), cn]; exact hB.2
  have lw2 : ws.length ≤ 10 := hB.2
  have SC7 : SW H S (n + 100000) H7 := ⟨SC6.1.trans sc7.1, sc7.2.mono (by omega)⟩
  refine q H7 p D1 D2 x FK CK (plc ws) ws.length s SC7.1 SC7.2 hp (sc4.was n1) (SC5.was n2) D12 (k57.at_ D1S' h1) (sc7.1.at_ D2S' h2) ⟨lz, lw, by rw [fn]; exact ndA, by rw [cn]; exact ndB, fun r hr => ?_, fun r hr => ?_, by omega, sv, Srt.ok_mono h1k h2k sok, fun r hr => (fin r hr).le, fun r hr => (cin r hr).le⟩ (fun r hr => ⟨sc4.was (fin r hr).was, (kin7 r hr).lst⟩) (fun r hr => ⟨SC5.was (cin r hr).was, (cin7 r hr).lst⟩)
  · have k := kin7 r hr
    exact ⟨k.name, .inl k.lst, k.row.mono h1k h2k⟩
  · have k := cin7 r hr
    obtain ⟨j, ej, lo⟩ := k.low
    refine ⟨k.name, .inl k.lst, k.row.mono h1k h2k, fun c hc mn z' e => ?_⟩
    rw [plc_at ndB ej]
    exact ⟨lo c hc mn z' e, List.findIdx_le_length⟩
end K02

-- imports: K02S6 K02L0 K02L1 K02L2 K02L3 K02L4 K02L5 K02L6 K02L7
/-! ## k02: parts formed, copied -/
namespace K02
open PySem PySem.Spec PyProof.Rows L2 Kb
theorem Kp.unlock {M : List Addr} {H H' : Hp} {D : Addr} {u f : HO} (k : Kp M (upd H D f) H') (h : H D = some u) : Kp M H (upd H' D u) := fun x o n e => by
  by_cases c : x = D
  · subst c
    rw [h] at e
    rw [upd_same]
    exact e
  · rw [upd_ne c]
    exact k x o n (by rw [upd_ne c]; exact e)
/-- keyed places kept by unlocking -/
theorem none_locked {H : Hp} {D T : Addr} {f : HO} (h : (upd H D f) T = none) : H T = none := by
  by_cases c : T = D
  · rw [c, upd_same] at h
    cases h
  · rw [upd_ne c] at h
    exact h
theorem paired_maps {α β γ : Type} {R : α → β → Prop} {f : α → γ} {g : β → γ} (h : ∀ a b, R a b → g b = f a) : ∀ {xs : List α} {ys : List β}, Paired R xs ys → ys.map g = xs.map f
  | _, _, .nil => rfl
  | _, _, .cons r t => by rw [List.map_cons, List.map_cons, h _ _ r, paired_maps h t]
theorem paired_kp {α β : Type} {R R' : α → β → Prop} : ∀ {xs : List α} {ys : List β}, (∀ a b, b ∈ ys → R a b → R' a b) → Paired R xs ys → Paired R' xs ys
  | _, _, _, .nil => .nil
  | _, _, h, .cons r t => .cons (h _ _ List.mem_cons_self r) (paired_kp (fun a b m => h a b (List.mem_cons_of_mem _ m)) t)
theorem kv_at {rs : List Row} {i : Nat} {x y : V} (ex : (rs.map Row.kv)[i]?.map (fun kv => kV kv.1) = some x) (ey : (rs.map Row.kv)[i]?.map Prod.snd = some y) : ∃ r, rs[i]? = some r ∧ x = .str r.name ∧ y = .ref r.adr := by
  rw [List.getElem?_map] at ex ey
  cases e : rs[i]? with
  | none => rw [e] at ex; cases ex
  | some r =>
    rw [e] at ex ey
    cases ex
    cases ey
    exact ⟨r, rfl, rfl, rfl⟩
theorem len_law_formed (K : PySem.W.Frag) : ∀ vs H Q E, sp_law_formed K vs H Q E → vs.length = ["_law_well_here", "_law_table"].length := by
  intro _ _ _ _ h
  unfold sp_law_formed at h
  obtain ⟨_, _, _, _, rfl, _⟩ := h
  rfl
theorem Frm.kp {G H H' : Hp} {M : List Addr} {r r' : Row} (h : Frm G H r r') (k : Kp M H H') (n : r'.adr ∉ M) : Frm G H' r r' :=
  ⟨h.1, h.2.1, h.2.2.1, h.2.2.2.imp (k.at_ n) (k.at_ n)⟩
theorem p_law_formed (K : PySem.W.Frag) (vs : List V) (H : Hp) (Q : VK) (E : XK) (h : sp_law_formed K vs H Q E) : t_law_formed K { nx := fun _ H' => Q .non H', rt := Q } (start ["_law_well_here", "_law_table", "_law_name", "_law_row"] vs) H := by
  unfold sp_law_formed at h
  obtain ⟨S, D, n, rs, rfl, w, hn, hD, nd, l10, hr, q⟩ := h
  walk_at "go"
  refine ⟨D, .dK (rs.map Row.kv), hD, trivial, fun od => ⟨_, rfl, D, od, _, rfl, upd_same, fun F nF => ?_⟩⟩
  have SD : D ≠ S := fun e => by
    obtain ⟨_, z⟩ := w.lst
    rw [← e, hD] at z
    cases z
  have SD' : D ∉ [S] := fun m => SD (List.mem_singleton.mp m)
  have nG : ∀ T, (upd H D (.frz od (.dK (rs.map Row.kv)))) T = none → H T = none := fun T h => none_locked h
  obtain ⟨G, eG⟩ : ∃ G, G = upd H D (.frz od (.dK (rs.map Row.kv))) := ⟨_, rfl⟩
  have gD : G D = some (.frz od (.dK (rs.map Row.kv))) := by rw [eG]; exact upd_same
  have wG : Wel G S n := by rw [eG]; exact w.off SD
  have hrG : ∀ r ∈ rs, G r.adr = some (.lst r.xs) := fun r m => by
    rw [eG, upd_ne (fun e => by have := (hr r m).1; rw [e, hD] at this; cases this)]
    exact (hr r m).1
  rw [← eG] at nF nG ⊢
  have scG : SW G S n G := ⟨Kp.refl, wG⟩
  refine lc_acc walk_items (fun i acc H' => SW G S (n + i) H' ∧ ∃ rows : List Row, Paired (Frm G H') (rs.take i) rows ∧ Paired (PairKv K H' Row.kv) rows acc ∧ ∀ r ∈ rows, r.adr ≠ F) ⟨scG.new nF, [], .nil, .nil, fun r h => nomatch h⟩ (fun i acc H' _ h => h.1.1.at_ SD' gD) (fun i x acc Hc Hd hi hl hF hP hY => ?_) (fun acc Hc hl hF hP => ?_)
  · obtain ⟨scb, rows, pf, pr, ne⟩ := hP
    obtain ⟨T, x0, y0, rfl, nT, rfl, ex, ey⟩ := hY
    obtain ⟨r, er, rfl, rfl⟩ := kv_at ex ey
    have rm : r ∈ rs := List.mem_of_getElem? er
    have hi10 : i < 10 := by rw [List.length_map] at hi; omega
    have FS : F ∉ [S] := scG.nm nF
    have FT : F ≠ T := ne_of_none hF nT
    have hrl := (hr r rm).2.2
    have hr1 : (upd Hc T (.tup [.str r.name, .ref r.adr])) r.adr = some (.lst r.xs) := (Kp.refl (M := []).upd_new' nT).at_ List.not_mem_nil (scb.1.at_ (fun m => (hr r rm).2.1 (List.mem_singleton.mp m)) (hrG r rm))
    have hT : (upd Hc T (.tup [.str r.name, .ref r.adr])) T = some (.tup [.str r.name, .ref r.adr]) := upd_same
    have k1 : Kp [] Hc (upd Hc T (.tup [.str r.name, .ref r.adr])) := Kp.refl.upd_new' nT
    have sc1 : SW G S (n + i) (upd Hc T (.tup [.str r.name, .ref r.adr])) := scb.new nT
    have hF1 : (upd Hc T (.tup [.str r.name, .ref r.adr])) F = some (.lst acc) := (upd_ne FT).trans hF
    generalize upd Hc T (.tup [.str r.name, .ref r.adr]) = H1 at hr1 hT k1 sc1 hF1 ⊢
    refine gTup_go (SqT.of hT) rfl ?_
    walk_at "go"
    rename_i p1 np1 p2 np2 p3 np3 H5 r5 sc5 k5 r6 r7
    have k13 : Kp [] H1 (upd (upd (upd H1 p1 (.lst r.xs)) p2 (.tup r.xs)) p3 (.lst [.ref p1, .ref p2])) := ((Kp.refl.upd_new' np1).upd_new' np2).upd_new' np3
    have sc3 : SW G S (n + i) (upd (upd (upd H1 p1 (.lst r.xs)) p2 (.tup r.xs)) p3 (.lst [.ref p1, .ref p2])) := ((sc1.new np1).new np2).new np3
    have h3 : (upd (upd (upd H1 p1 (.lst r.xs)) p2 (.tup r.xs)) p3 (.lst [.ref p1, .ref p2])) p3 = some (.lst [.ref p1, .ref p2]) := upd_same
    have h2 : (upd (upd (upd H1 p1 (.lst r.xs)) p2 (.tup r.xs)) p3 (.lst [.ref p1, .ref p2])) p2 = some (.tup r.xs) := (upd_ne (ne_of_none upd_same np3)).trans upd_same
    have h1 : (upd (upd (upd H1 p1 (.lst r.xs)) p2 (.tup r.xs)) p3 (.lst [.ref p1, .ref p2])) p1 = some (.lst r.xs) := (Kp.refl (M := []).upd_new' np3).at_ List.not_mem_nil ((Kp.refl (M := []).upd_new' np2).at_ List.not_mem_nil upd_same)
    have g1 : G p1 = none := sc1.was np1
    have g2 : G p2 = none := (sc1.new np1).was np2
    have m1 : p1 ∉ [S] := sc1.nm np1
    have m2 : p2 ∉ [S] := (sc1.new np1).nm np2
    have m3 : p3 ∉ [S] := ((sc1.new np1).new np2).nm np3
    have f1 : p1 ≠ F := (ne_of_none hF1 np1).symm
    have f2 : p2 ≠ F := (ne_of_none ((Kp.refl (M := []).upd_new' np1).at_ List.not_mem_nil hF1) np2).symm
    have hF3 := k13.at_ List.not_mem_nil hF1
    generalize upd (upd (upd H1 p1 (.lst r.xs)) p2 (.tup r.xs)) p3 (.lst [.ref p1, .ref p2]) = H3 at k13 sc3 h3 h2 h1 hF3 k5 ⊢
    obtain ⟨x, hx, ex⟩ := ix_mem (xs := [V.ref p1, V.ref p2]) r6 r7
    have hx2 : ∃ a, x = .ref a ∧ G a = none ∧ a ≠ F ∧ (H5 a = some (.lst r.xs) ∨ H5 a = some (.tup r.xs)) := by
      simp only [List.mem_cons, List.not_mem_nil, or_false] at hx
      rcases hx with rfl | rfl
      · exact ⟨p1, rfl, g1, f1, .inl (k5.at_ m1 h1)⟩
      · exact ⟨p2, rfl, g2, f2, .inr (k5.at_ m2 h2)⟩
    obtain ⟨a, rfl, ga, fa, ha⟩ := hx2
    refine ixL_go (SqL.of (k5.at_ m3 h3)) ex ?_
    walk_at "go"
    rename_i t nt
    have hF5 := k5.at_ FS hF3
    have tF : F ≠ t := ne_of_none hF5 nt
    have kc5 : Kp [S] Hc H5 := (k1.trans k13).mono (fun a m => nomatch m) |>.trans k5
    have k6 : Kp [F] H5 (upd (upd H5 t (.tup [.str r.name, .ref a])) F (.lst (acc ++ [.ref t]))) := (Kp.refl.upd_new' nt).upd_in List.mem_cons_self
    have l6 : ∀ b ∈ [F], NoT H5 b := fun b m => by rw [List.mem_singleton.mp m]; exact noT_lst hF5
    refine acc_go hl (by omega) ((upd_ne tF).trans hF5) ⟨((sc5.new nt).upd nF FS).mono (by omega), rows ++ [⟨r.name, a, r.xs⟩], ?_, paired_snoc (paired_imp (fun _ _ g => (g.kpT kc5 scb.2.noT).kpT k6 l6) pr) ⟨t, rfl, SqT.of ((upd_ne tF.symm).trans upd_same)⟩, fun r' hr' => ?_⟩
    · rw [take_snoc er]
      refine paired_snoc (paired_kp (fun a b mb g => (g.kp kc5 ?_).kp k6 ?_) pf) ⟨rfl, rfl, ga, ha.imp (k6.at_ fun m => fa (List.mem_singleton.mp m)) (k6.at_ fun m => fa (List.mem_singleton.mp m))⟩
      · exact fun m => by
          have g3 := g.2.2.1
          rw [List.mem_singleton.mp m] at g3
          obtain ⟨_, e⟩ := wG.lst
          rw [g3] at e
          cases e
      · exact fun m => ne b mb (List.mem_singleton.mp m)
    · rcases List.mem_append.mp hr' with m | m
      · exact ne r' m
      · rw [List.mem_singleton.mp m]
        exact fa
  · obtain ⟨scb, rows, pf, pr, ne⟩ := hP
    rw [List.length_map] at scb pf
    rw [List.take_length] at pf
    refine ⟨scb.1.at_ SD' gD, ?_⟩
    have kH : Kp [S] H (upd Hc D (.dK (rs.map Row.kv))) := Kp.unlock (f := .frz od (.dK (rs.map Row.kv))) (by rw [← eG]; exact scb.1) hD
    have kU : Kp [D] Hc (upd Hc D (.dK (rs.map Row.kv))) := Kp.refl.upd_in List.mem_cons_self
    have lU : ∀ b ∈ [D], NoT Hc b := fun b m u e => by
      rw [List.mem_singleton.mp m, scb.1.at_ SD' gD] at e
      cases e
      exact ⟨(fun _ e => by cases e), fun _ _ e => by cases e⟩
    have FD : F ≠ D := fun e => by rw [e, gD] at nF; cases nF
    have nd2 : ((rows.map Row.kv).map (·.1)).Nodup := by
      rw [List.map_map]
      have e : rows.map (·.name) = rs.map (·.name) := paired_maps (fun _ _ g => g.1) pf
      rw [← e] at nd
      exact nodup_inr nd
    have wU : Wel (upd Hc D (.dK (rs.map Row.kv))) S (n + 10) := (scb.2.off SD).mono (by omega)
    have pf2 : Paired (Frm H (upd Hc D (.dK (rs.map Row.kv)))) rs rows := paired_imp (fun a b g => by
      obtain ⟨g1, g2, g3, g4⟩ := g
      have bD : b.adr ≠ D := fun e => by rw [e, gD] at g3; cases g3
      exact ⟨g1, g2, nG _ g3, g4.imp (fun h => (upd_ne bD).trans h) fun h => (upd_ne bD).trans h⟩) pf
    show rDictU K [.ref F] (upd Hc D (.dK (rs.map Row.kv))) _
    refine dictP_go (SqL.of ((upd_ne FD).trans hF)) (paired_imp (fun _ _ g => g.kpT kU lU) pr) nd2 fun p np => ?_
    exact q _ p rows (kH.upd_new' np) (wU.new np) (kH.none_of (fun m => (wU.ne np) (List.mem_singleton.mp m)) np) upd_same (paired_imp (fun _ _ g => g.kp (Kp.refl.upd_new' np) List.not_mem_nil) pf2)
theorem len_law_copied (K : PySem.W.Frag) : ∀ vs H Q E, sp_law_copied K vs H Q E → vs.length = ["_law_handed"].length := by
  intro _ _ _ _ h
  unfold sp_law_copied at h
  obtain ⟨_, _, _, _, _, rfl, _⟩ := h
  rfl
/-- a row copied, the copy new since Hn, not at F -/
def CopF (K : PySem.W.Frag) (G Hn H : Hp) (F : Addr) (r : Row) (x : V) : Prop := ∃ t l b, x = .ref t ∧ SqT K H t [.str r.name, .bl b, .ref l] ∧ H l = some (.lst r.xs) ∧ l ≠ F ∧ Hn l = none ∧ (b = true → G r.adr = some (.lst r.xs)) ∧ (b = false → G r.adr = some (.tup r.xs))
theorem CopF.kp {K : PySem.W.Frag} {G Hn H H' : Hp} {F : Addr} {r : Row} {x : V} {M : List Addr} (h : CopF K G Hn H F r x) (k : Kp M H H') (l : ∀ b ∈ M, NoT H b) (m : ∀ b ∈ M, b = F) : CopF K G Hn H' F r x := by
  obtain ⟨t, l', b, e, h1, h2, h3, h0, h4, h5⟩ := h
  exact ⟨t, l', b, e, sqT_kpT k l h1, k.at_ (fun z => h3 (m _ z)) h2, h3, h0, h4, h5⟩
theorem copied_in {K : PySem.W.Frag} {G0 H : Hp} {Q : VK} {D Fo : Addr} {o : HO} {rs : List Row} {u0 u2 u3 : Option V} (k0 : Kp [] G0 H) (hFo : H Fo = some o) (hD : H D = some (.dK (rs.map Row.kv))) (hr : ∀ r ∈ rs, (G0 r.adr = some (.lst r.xs) ∨ G0 r.adr = some (.tup r.xs)) ∧ r.xs.length ≤ 10) (l10 : rs.length ≤ 10)
    (q : ∀ H' l xs, Kp [] H H' → H l = none → H' l = some (.lst xs) → Paired (CopF K G0 G0 H' Fo) rs xs → Q (.ref l) H') :
    (tLockE (tLc (iItems (tVar 1)) (gTup K 2 (gCons (gName 2) (gCons (gName 3) gNil))) tYes (tTup (tCons (tVar 2) (tCons (tCB (rIsiU K) (tCons (tVar 3) (tCons (tC (.ty "list")) tNil))) (tCons (tCB (rListU K) (tCons (tVar 3) tNil)) tNil)))) [2, 3])) [u0, some (.ref D), u2, u3] H Q := by
  refine ⟨D, .dK (rs.map Row.kv), hD, trivial, fun od => ⟨_, rfl, D, od, _, rfl, upd_same, fun F nF => ?_⟩⟩
  have nG : ∀ T, (upd H D (.frz od (.dK (rs.map Row.kv)))) T = none → H T = none := fun T h => none_locked h
  obtain ⟨G, eG⟩ : ∃ G, G = upd H D (.frz od (.dK (rs.map Row.kv))) := ⟨_, rfl⟩
  have gD : G D = some (.frz od (.dK (rs.map Row.kv))) := by rw [eG]; exact upd_same
  have hrG : ∀ r ∈ rs, ∀ o, G0 r.adr = some o → G r.adr = some o := fun r m o e => by
    have h1 := k0.at_ List.not_mem_nil e
    rw [eG, upd_ne (fun e2 => by
      rcases (hr r m).1 with h | h <;> have h2 := k0.at_ List.not_mem_nil h <;> rw [e2, hD] at h2 <;> cases h2)]
    exact h1
  rw [← eG] at nF nG ⊢
  refine lc_acc walk_items (fun i acc H' => Kp [] G H' ∧ Paired (CopF K G0 H H' F) (rs.take i) acc) ⟨Kp.refl.upd_new nF, .nil⟩ (fun i acc H' _ h => h.1.at_ List.not_mem_nil gD) (fun i x acc Hc Hd hi hl hF hP hY => ?_) (fun acc Hc hl hF hP => ?_)
  · obtain ⟨kb, pr⟩ := hP
    obtain ⟨T, x0, y0, rfl, nT, rfl, ex, ey⟩ := hY
    obtain ⟨r, er, rfl, rfl⟩ := kv_at ex ey
    have rm : r ∈ rs := List.mem_of_getElem? er
    have hi10 : i < 10 := by rw [List.length_map] at hi; omega
    have FT : F ≠ T := ne_of_none hF nT
    have hrl := (hr r rm).2
    have hT : (upd Hc T (.tup [.str r.name, .ref r.adr])) T = some (.tup [.str r.name, .ref r.adr]) := upd_same
    have k1 : Kp [] Hc (upd Hc T (.tup [.str r.name, .ref r.adr])) := Kp.refl.upd_new' nT
    have hF1 : (upd Hc T (.tup [.str r.name, .ref r.adr])) F = some (.lst acc) := (upd_ne FT).trans hF
    generalize upd Hc T (.tup [.str r.name, .ref r.adr]) = H1 at hT k1 hF1 ⊢
    have fin : ∀ b l t, (b = true → G0 r.adr = some (.lst r.xs)) → (b = false → G0 r.adr = some (.tup r.xs)) → H1 l = none → (upd H1 l (.lst r.xs)) t = none → ∃ acc, (upd (upd H1 l (.lst r.xs)) t (.tup [.str r.name, .bl b, .ref l])) F = some (.lst acc) ∧ acc.length < sizeLine ∧ Kb.Acc F (fun i acc H' => Kp [] G H' ∧ Paired (CopF K G0 H H' F) (rs.take i) acc) (i + 1) (upd (upd (upd H1 l (.lst r.xs)) t (.tup [.str r.name, .bl b, .ref l])) F (.lst (acc ++ [.ref t]))) := fun b l t h1 h2 nl nt => by
      have k3 : Kp [] H1 (upd (upd H1 l (.lst r.xs)) t (.tup [.str r.name, .bl b, .ref l])) := (Kp.refl.upd_new' nl).upd_new' nt
      have ht : (upd (upd H1 l (.lst r.xs)) t (.tup [.str r.name, .bl b, .ref l])) t = some (.tup [.str r.name, .bl b, .ref l]) := upd_same
      have hl3 : (upd (upd H1 l (.lst r.xs)) t (.tup [.str r.name, .bl b, .ref l])) l = some (.lst r.xs) := (Kp.refl (M := []).upd_new' nt).at_ List.not_mem_nil upd_same
      have lF : l ≠ F := (ne_of_none hF1 nl).symm
      have nl0 : H l = none := nG _ ((kb.trans k1).none_of List.not_mem_nil nl)
      generalize upd (upd H1 l (.lst r.xs)) t (.tup [.str r.name, .bl b, .ref l]) = H3 at k3 ht hl3 ⊢
      have hF3 := k3.at_ List.not_mem_nil hF1
      have k6 : Kp [F] H3 (upd H3 F (.lst (acc ++ [.ref t]))) := Kp.refl.upd_in List.mem_cons_self
      have l6 : ∀ b ∈ [F], NoT H3 b := fun b m => by rw [List.mem_singleton.mp m]; exact noT_lst hF3
      have kc3 : Kp [] Hc H3 := k1.trans k3
      refine acc_go hl (by omega) hF3 ⟨(kb.trans kc3).upd_new nF, ?_⟩
      rw [take_snoc er]
      exact paired_snoc (paired_imp (fun _ _ g => (g.kp kc3 (fun b m => nomatch m) fun b m => nomatch m).kp k6 l6 fun b m => List.mem_singleton.mp m) pr) ⟨t, l, b, rfl, sqT_kpT k6 l6 (SqT.of ht), k6.at_ (fun m => lF (List.mem_singleton.mp m)) hl3, lF, nl0, h1, h2⟩
    refine gTup_go (SqT.of hT) rfl ?_
    rcases (hr r rm).1 with hg | hg
    · have hr1 : H1 r.adr = some (.lst r.xs) := (kb.trans k1).at_ List.not_mem_nil (hrG r rm _ hg)
      walk_at "go"
      rename_i l nl t nt
      exact fin true l t (fun _ => hg) (fun e => by cases e) nl nt
    · have hr1 : H1 r.adr = some (.tup r.xs) := (kb.trans k1).at_ List.not_mem_nil (hrG r rm _ hg)
      walk_at "go"
      rename_i l nl t nt
      exact fin false l t (fun e => by cases e) (fun _ => hg) nl nt
  · obtain ⟨kb, pr⟩ := hP
    rw [List.length_map, List.take_length] at pr
    refine ⟨kb.at_ List.not_mem_nil gD, ?_⟩
    have FD : F ≠ D := fun e => by rw [e, gD] at nF; cases nF
    have kH : Kp [] H (upd Hc D (.dK (rs.map Row.kv))) := Kp.unlock (f := .frz od (.dK (rs.map Row.kv))) (by rw [← eG]; exact kb) hD
    refine q _ F acc kH (nG _ nF) ((upd_ne FD).trans hF) (paired_imp (fun a b g => ?_) pr)
    obtain ⟨t, l, bb, e, h1, h2, h3, h0, h4, h5⟩ := g
    have kU : Kp [D] Hc (upd Hc D (.dK (rs.map Row.kv))) := Kp.refl.upd_in List.mem_cons_self
    have lU : ∀ b ∈ [D], NoT Hc b := fun b m u e => by
      rw [List.mem_singleton.mp m, kb.at_ List.not_mem_nil gD] at e
      cases e
      exact ⟨(fun _ e => by cases e), fun _ _ e => by cases e⟩
    have lD : l ≠ D := fun e => by rw [e, kb.at_ List.not_mem_nil gD] at h2; cases h2
    exact ⟨t, l, bb, e, sqT_kpT kU lU h1, (upd_ne lD).trans h2, (ne_of_none hFo h0).symm, k0.none_of List.not_mem_nil h0, h4, h5⟩
theorem p_law_copied (K : PySem.W.Frag) (vs : List V) (H : Hp) (Q : VK) (E : XK) (h : sp_law_copied K vs H Q E) : t_law_copied K { nx := fun _ H' => Q .non H', rt := Q } (start ["_law_handed", "_law_table", "_law_name", "_law_row"] vs) H := by
  unfold sp_law_copied at h
  obtain ⟨p, D1, D2, rs1, rs2, rfl, hp, h1, h2, hr, l1, l2, q⟩ := h
  walk_at "go"
  refine ⟨⟨_, SqL.of hp⟩, fun F nF => ?_⟩
  refine lc_acc (walk_list (xs := [.ref D1, .ref D2])) (fun i acc H' => Kp [] H H' ∧ Paired (fun rs x => ∃ l xs, x = .ref l ∧ l ≠ F ∧ H' l = some (.lst xs) ∧ Paired (CopF K H H H' F) rs xs) ([rs1, rs2].take i) acc) ⟨Kp.refl.upd_new nF, .nil⟩ (fun i acc H' _ h => SqL.of (h.1.at_ List.not_mem_nil hp)) (fun i x acc Hc Hd hi hl hF hP hY => ?_) (fun acc Hc hl hF hP => ?_)
  · obtain ⟨kb, pr⟩ := hP
    obtain ⟨rfl, ex⟩ := hY
    obtain ⟨D, rs, rfl, er, hD, hrs, lrs⟩ : ∃ D rs, x = .ref D ∧ [rs1, rs2][i]? = some rs ∧ H D = some (.dK (rs.map Row.kv)) ∧ (∀ r ∈ rs, (H r.adr = some (.lst r.xs) ∨ H r.adr = some (.tup r.xs)) ∧ r.xs.length ≤ 10) ∧ rs.length ≤ 10 := by
      match i, ex with
      | 0, ex => cases ex; exact ⟨D1, rs1, rfl, rfl, h1, fun r m => hr r (List.mem_append_left _ m), l1⟩
      | 1, ex => cases ex; exact ⟨D2, rs2, rfl, rfl, h2, fun r m => hr r (List.mem_append_right _ m), l2⟩
      | n + 2, ex => cases ex
    have hi2 : i < 2 := hi
    refine ⟨rfl, ?_⟩
    unfold tYes
    refine iteT (A := tLockE _ [some (.ref p), some (.ref D), none, none] Hd _) (B := _) ?_
    refine copied_in (u0 := some (.ref p)) (u2 := none) (u3 := none) kb hF (kb.at_ List.not_mem_nil hD) hrs lrs fun H' l xs k nl hl' pf => ?_
    have hF' := k.at_ List.not_mem_nil hF
    have lF : l ≠ F := (ne_of_none hF nl).symm
    have k6 : Kp [F] H' (upd H' F (.lst (acc ++ [.ref l]))) := Kp.refl.upd_in List.mem_cons_self
    have l6 : ∀ b ∈ [F], NoT H' b := fun b m => by rw [List.mem_singleton.mp m]; exact noT_lst hF'
    refine acc_go hl (by omega) hF' ⟨(kb.trans k).upd_new nF, ?_⟩
    rw [take_snoc er]
    refine paired_snoc (paired_imp (fun a b g => ?_) pr) ⟨l, xs, rfl, lF, (upd_ne lF).trans hl', paired_imp (fun _ _ g => g.kp k6 l6 fun b m => List.mem_singleton.mp m) pf⟩
    obtain ⟨l', xs', e, lF', hl2, pf2⟩ := g
    exact ⟨l', xs', e, lF', (upd_ne lF').trans (k.at_ List.not_mem_nil hl2), paired_imp (fun _ _ g => (g.kp k (fun b m => nomatch m) fun b m => nomatch m).kp k6 l6 fun b m => List.mem_singleton.mp m) pf2⟩
  · obtain ⟨kb, pr⟩ := hP
    have pr' : Paired (fun rs x => Cop K Hc rs x) [rs1, rs2] acc := paired_imp (fun a b g => by
      obtain ⟨l, xs, e, lF, hl2, pf⟩ := g
      refine ⟨l, xs, e, hl2, paired_imp (fun r x g => ?_) pf⟩
      obtain ⟨t, l', b, e, h1, h2, h3, h0, h4, h5⟩ := g
      exact ⟨t, l', b, e, h1, h2, fun z => kb.at_ List.not_mem_nil (h4 z), fun z => kb.at_ List.not_mem_nil (h5 z)⟩) pr
    match acc, pr', hF with
    | [x, y], .cons a (.cons b .nil), hF => exact q Hc F x y kb hF a b
end K02

-- imports: K02S6 K02L0 K02L1 K02L2 K02L3 K02L4 K02L5 K02L6 K02L7 K02L8
/-! ## k02: parts by rising numbers -/
namespace K02
open PySem PySem.Spec PyProof.Rows L2 Kb
open LamX (TabS)
theorem len_law_sorted (K : PySem.W.Frag) (Pt : Tb) : ∀ vs H Q E, sp_law_sorted K Pt vs H Q E → vs.length = ["_law_table"].length := by
  intro _ _ _ _ h
  unfold sp_law_sorted at h
  obtain ⟨_, _, rfl, _⟩ := h
  rfl
theorem noT_of {H : Hp} {b : Addr} (h : NoSq H b) : NoT H b := fun u e => ⟨(h u e).1, (h u e).2.1⟩
theorem noSq_frz {H : Hp} {D : Addr} {o : Obj} {kvs : List (L2.Key × V)} (h1 : H D = some (.frz o (.dK kvs))) : NoSq H D := fun u h => by
  rw [h1] at h
  cases h
  exact ⟨(fun _ e => by cases e), (fun _ _ e => by cases e), (fun _ e => by cases e)⟩
theorem Tbl.kpC {Pt : Tb} {H H' : Hp} (t : Tbl Pt H) (k : Kp [Pt.c] H H') (tc : TabS H' Pt.c qc) : Tbl Pt H' := ⟨tabS_kp t.a k (fun m => t.ac (List.mem_singleton.mp m)) (fun a m => by rw [List.mem_singleton.mp m]; exact tabS_no t.c), tabS_kp t.b k (fun m => t.bc (List.mem_singleton.mp m)) (fun a m => by rw [List.mem_singleton.mp m]; exact tabS_no t.c), tc, t.ab, t.ac, t.bc⟩
theorem one {H : Hp} {b : Addr} {P : Hp → Addr → Prop} (h : P H b) : ∀ x ∈ [b], P H x := fun x m => by rw [List.mem_singleton.mp m]; exact h
/-- one of a schema's own rows, new since G, not at F -/
def DoneF (G H : Hp) (F : Addr) (r : Row × List Int) (kv : L2.Key × V) : Prop := kv.1 = .inr r.1.name ∧ ∃ T ys, kv.2 = .ref T ∧ G T = none ∧ T ≠ F ∧ H T = some (.tup ys) ∧ ByKey r.2 r.1.xs ys
theorem DoneF.kp {G H H' : Hp} {F : Addr} {r : Row × List Int} {kv : L2.Key × V} {M : List Addr} (h : DoneF G H F r kv) (k : Kp M H H') (l : ∀ b ∈ M, NoT H b) : DoneF G H' F r kv := by
  obtain ⟨e, T, ys, e1, e2, e3, e4, e5⟩ := h
  exact ⟨e, T, ys, e1, e2, e3, k.at_ (fun m => (l T m _ e4).1 _ rfl) e4, e5⟩
theorem kv_at2 {rs : List (Row × List Int)} {i : Nat} {x y : V} (ex : (rs.map fun r => r.1.kv)[i]?.map (fun kv => kV kv.1) = some x) (ey : (rs.map fun r => r.1.kv)[i]?.map Prod.snd = some y) : ∃ r, rs[i]? = some r ∧ x = .str r.1.name ∧ y = .ref r.1.adr := by
  rw [List.getElem?_map] at ex ey
  cases e : rs[i]? with
  | none => rw [e] at ex; cases ex
  | some r =>
    rw [e] at ex ey
    cases ex
    cases ey
    exact ⟨r, rfl, rfl, rfl⟩
theorem p_law_sorted (K : PySem.W.Frag) (Pt : Tb) (vs : List V) (H : Hp) (Q : VK) (E : XK) (h : sp_law_sorted K Pt vs H Q E) : t_law_sorted K Pt { nx := fun _ H' => Q .non H', rt := Q } (start ["_law_table", "_law_name", "_law_row"] vs) H := by
  unfold sp_law_sorted at h
  obtain ⟨D, rs, rfl, hD, l10, nd, hr, tb, q⟩ := h
  walk_at "go"
  refine ⟨D, .dK (rs.map fun r => r.1.kv), hD, trivial, fun od => ⟨_, rfl, D, od, _, rfl, upd_same, fun F nF => ?_⟩⟩
  have nG : ∀ T, (upd H D (.frz od (.dK (rs.map fun r => r.1.kv)))) T = none → H T = none := fun T h => none_locked h
  obtain ⟨G, eG⟩ : ∃ G, G = upd H D (.frz od (.dK (rs.map fun r => r.1.kv))) := ⟨_, rfl⟩
  have gD : G D = some (.frz od (.dK (rs.map fun r => r.1.kv))) := by rw [eG]; exact upd_same
  have kHG : Kp [D] H G := by rw [eG]; exact Kp.refl.upd_in List.mem_cons_self
  have lHG : ∀ b ∈ [D], NoSq H b := one (noSq_dK (.inl hD))
  have hrG : ∀ r ∈ rs, Sq K G r.1.adr r.1.xs ∧ Paired (fun (k : Int) (y : V) => ∃ t q, y = .ref t ∧ SqT K G t (.int k :: q)) r.2 r.1.xs := fun r m =>
    ⟨(hr r m).1.kpN kHG lHG, paired_imp (fun _ _ ⟨t, q, e, g⟩ => ⟨t, q, e, sqT_kpN kHG lHG g⟩) (hr r m).2.2⟩
  have tbG : Tbl Pt G := by rw [eG]; exact tb.updD hD
  rw [← eG] at nF nG ⊢
  have FP : F ≠ Pt.c := fun e => by
    obtain ⟨ps, h, _⟩ := tbG.c
    rw [← e, nF] at h
    cases h
  have DP : D ≠ Pt.c := tabS_ne tbG.c gD (fun ps e => by cases e)
  have DP' : D ∉ [Pt.c] := fun m => DP (List.mem_singleton.mp m)
  refine lc_acc walk_items (fun i acc H' => Kp [Pt.c] G H' ∧ Tbl Pt H' ∧ ∃ kvs, Paired (DoneF G H' F) (rs.take i) kvs ∧ Paired (PairKv K H' id) kvs acc) ⟨Kp.refl.upd_new nF, tbG.kp0 (Kp.refl.upd_new' nF), [], .nil, .nil⟩ (fun i acc H' _ h => h.1.at_ DP' gD) (fun i x acc Hc Hd hi hl hF hP hY => ?_) (fun acc Hc hl hF hP => ?_)
  · obtain ⟨kb, tbc, kvs, pf, pr⟩ := hP
    obtain ⟨T, x0, y0, rfl, nT, rfl, ex, ey⟩ := hY
    obtain ⟨r, er, rfl, rfl⟩ := kv_at2 ex ey
    have rm : r ∈ rs := List.mem_of_getElem? er
    have hi10 : i < 10 := by rw [List.length_map] at hi; omega
    have FT : F ≠ T := ne_of_none hF nT
    have hT : (upd Hc T (.tup [.str r.1.name, .ref r.1.adr])) T = some (.tup [.str r.1.name, .ref r.1.adr]) := upd_same
    have k1 : Kp [] Hc (upd Hc T (.tup [.str r.1.name, .ref r.1.adr])) := Kp.refl.upd_new' nT
    have hF1 : (upd Hc T (.tup [.str r.1.name, .ref r.1.adr])) F = some (.lst acc) := (upd_ne FT).trans hF
    generalize upd Hc T (.tup [.str r.1.name, .ref r.1.adr]) = H1 at hT k1 hF1 ⊢
    have tb1 := tbc.kp0 k1
    have kG1 : Kp [Pt.c] G H1 := kb.trans (k1.mono fun a m => nomatch m)
    have lG : ∀ b ∈ [Pt.c], NoSq G b := one (noSq_tab tbG.c)
    refine gTup_go (SqT.of hT) rfl ?_
    walk_at "go"
    have hr1 := hrG r rm
    have sq1 := hr1.1.kpN kG1 lG
    refine ⟨tb1.c, r.1.adr, r.1.xs, r.2, rfl, sq1.imp SqL.of id, paired_imp (fun _ _ ⟨t, q, e, g⟩ => ⟨t, q, e, sqT_kpN kG1 lG g⟩) hr1.2, fun H2 ys p k2 tc np bk => ?_⟩
    refine tuple_goL (SqL.of upd_same) fun l nl => ?_
    have nl2 : H2 l = none := (Kp.refl (M := []).upd_new' np).none_of List.not_mem_nil nl
    have hl4 : (upd (upd H2 p (.lst ys)) l (.tup ys)) l = some (.tup ys) := upd_same
    have k24 : Kp [] H2 (upd (upd H2 p (.lst ys)) l (.tup ys)) := (Kp.refl.upd_new' np).upd_new' nl
    generalize upd (upd H2 p (.lst ys)) l (.tup ys) = H4 at hl4 k24 ⊢
    walk_at "go"
    rename_i t nt
    have tb2 : Tbl Pt H2 := tb1.kpC k2 tc
    have tb5 : Tbl Pt (upd H4 t (.tup [.str r.1.name, .ref l])) := (tb2.kp0 k24).kp0 (Kp.refl.upd_new' nt)
    have k25 : Kp [] H2 (upd H4 t (.tup [.str r.1.name, .ref l])) := k24.upd_new' nt
    have ht5 : (upd H4 t (.tup [.str r.1.name, .ref l])) t = some (.tup [.str r.1.name, .ref l]) := upd_same
    have hl5 : (upd H4 t (.tup [.str r.1.name, .ref l])) l = some (.tup ys) := (Kp.refl (M := []).upd_new' nt).at_ List.not_mem_nil hl4
    generalize upd H4 t (.tup [.str r.1.name, .ref l]) = H5 at tb5 k25 ht5 hl5 ⊢
    have hF2 := k2.at_ (fun m => FP (List.mem_singleton.mp m)) hF1
    have hF5 := k25.at_ List.not_mem_nil hF2
    have kc5 : Kp [Pt.c] Hc H5 := (k1.mono fun a m => nomatch m).trans (k2.trans (k25.mono fun a m => nomatch m))
    have lc5 : ∀ b ∈ [Pt.c], NoT Hc b := one (noT_of (noSq_tab tbc.c))
    have k6 : Kp [F] H5 (upd H5 F (.lst (acc ++ [.ref t]))) := Kp.refl.upd_in List.mem_cons_self
    have l6 : ∀ b ∈ [F], NoT H5 b := one (noT_lst hF5)
    have lP : l ∉ [Pt.c] := fun m => by
      obtain ⟨ps, h, _⟩ := tb2.c
      rw [← List.mem_singleton.mp m, nl2] at h
      cases h
    have lF : l ≠ F := (ne_of_none hF2 nl2).symm
    have pn : PairKv K (upd H5 F (.lst (acc ++ [.ref t]))) id ((.inr r.1.name : L2.Key), V.ref l) (.ref t) := ⟨t, rfl, sqT_kpT k6 l6 (SqT.of ht5)⟩
    refine acc_go hl (by omega) hF5 ⟨(kb.trans kc5).upd_new nF, tb5.updM hF5 (fun ps e => by cases e) (fun c z e => by cases e), kvs ++ [(.inr r.1.name, .ref l)], ?_, paired_snoc (paired_imp (fun _ _ g => (g.kpT kc5 lc5).kpT k6 l6) pr) pn⟩
    rw [take_snoc er]
    exact paired_snoc (paired_imp (fun _ _ g => (g.kp kc5 lc5).kp k6 l6) pf) ⟨rfl, l, ys, rfl, (kG1.trans k2).none_of lP nl2, lF, k6.at_ (fun m => lF (List.mem_singleton.mp m)) hl5, bk⟩
  · obtain ⟨kb, tbc, kvs, pf, pr⟩ := hP
    rw [List.length_map, List.take_length] at pf
    refine ⟨kb.at_ DP' gD, ?_⟩
    have hDc := kb.at_ DP' gD
    have FD : F ≠ D := fun e => by rw [e, gD] at nF; cases nF
    have kH : Kp [Pt.c] H (upd Hc D (.dK (rs.map fun r => r.1.kv))) := Kp.unlock (f := .frz od (.dK (rs.map fun r => r.1.kv))) (by rw [← eG]; exact kb) hD
    have kU : Kp [D] Hc (upd Hc D (.dK (rs.map fun r => r.1.kv))) := Kp.refl.upd_in List.mem_cons_self
    have lU : ∀ b ∈ [D], NoT Hc b := one (noT_of (noSq_frz hDc))
    have tbU : Tbl Pt (upd Hc D (.dK (rs.map fun r => r.1.kv))) := tbc.updM hDc (fun ps e => by cases e) (fun c z e => by cases e)
    have nd2 : ((kvs.map id).map (·.1)).Nodup := by
      rw [List.map_id]
      have e : kvs.map (·.1) = rs.map (fun r => (Sum.inr r.1.name : L2.Key)) := paired_maps (fun _ _ g => g.1) pf
      rw [e]
      exact nodup_inr nd
    show rDictU K [.ref F] (upd Hc D (.dK (rs.map fun r => r.1.kv))) _
    refine dictP_go (f := id) (SqL.of ((upd_ne FD).trans hF)) (paired_imp (fun _ _ g => g.kpT kU lU) pr) nd2 fun p np => ?_
    rw [List.map_id]
    have kp' : Kp [] (upd Hc D (.dK (rs.map fun r => r.1.kv))) (upd (upd Hc D (.dK (rs.map fun r => r.1.kv))) p (.dK kvs)) := Kp.refl.upd_new' np
    have pP : p ∉ [Pt.c] := fun m => by
      obtain ⟨ps, h, _⟩ := tbU.c
      rw [← List.mem_singleton.mp m, np] at h
      cases h
    refine q _ p kvs (kH.upd_new' np) (tbU.kp0 kp') (kH.none_of pP np) upd_same ?_
    unfold Done
    refine paired_map _ (fun a b g => ?_) pf
    obtain ⟨e, T, ys, e1, e2, e3, e4, e5⟩ := (g.kp kU lU).kp kp' fun b m => nomatch m
    exact ⟨e, T, ys, e1, nG _ e2, e4, e5⟩
end K02

-- imports: K02S6 K02L0 K02L1 K02L2 K02L3 K02L4 K02L5 K02L6 K02L7 K02L8 K02L9
/-! ## k02: right -/
namespace K02
open PySem PySem.Spec PyProof.Rows L2 Kb
open LamX (TabS)
theorem val_at {kvs : List (L2.Key × V)} (nd : (kvs.map (·.1)).Nodup) {i : Nat} {k : L2.Key} {v : V} (h : kvs[i]? = some (k, v)) : valV kvs k = some v := by
  induction kvs generalizing i with
  | nil => simp at h
  | cons p r ih =>
    rw [List.map_cons, List.nodup_cons] at nd
    cases i with
    | zero =>
      simp only [List.getElem?_cons_zero, Option.some.injEq] at h
      subst h
      exact valV_pos rfl
    | succ j =>
      simp only [List.getElem?_cons_succ] at h
      have hm : k ∈ r.map (·.1) := List.mem_map.mpr ⟨(k, v), List.mem_of_getElem? h, rfl⟩
      rw [valV_neg fun e => nd.1 (by rw [e]; exact hm)]
      exact ih nd.2 h
theorem zip_uniq {α : Type} : ∀ {ks : List Int} {xs : List α} {k : Int} {x y : α}, ks.Nodup → (k, x) ∈ ks.zip xs → (k, y) ∈ ks.zip xs → x = y
  | [], _, _, _, _, _, h, _ => by cases h
  | _ :: _, [], _, _, _, _, h, _ => by cases h
  | k' :: ks, x' :: xs, k, x, y, nd, h1, h2 => by
    rw [List.nodup_cons] at nd
    rw [List.zip_cons_cons] at h1 h2
    rcases List.mem_cons.mp h1 with e1 | e1 <;> rcases List.mem_cons.mp h2 with e2 | e2
    · cases e1
      cases e2
      rfl
    · cases e1
      exact absurd (List.of_mem_zip e2).1 nd.1
    · cases e2
      exact absurd (List.of_mem_zip e1).1 nd.1
    · exact zip_uniq nd.2 e1 e2
/-- by rising numbers there is one way -/
theorem byKey_uniq {ks : List Int} {xs ys zs : List V} (nd : ks.Nodup) (h1 : ByKey ks xs ys) (h2 : ByKey ks xs zs) : ys = zs := by
  obtain ⟨ps, p1, rfl, s1⟩ := h1
  obtain ⟨qs, p2, rfl, s2⟩ := h2
  congr 1
  refine List.Perm.eq_of_pairwise (fun a b ha hb l1 l2 => ?_) s1 s2 (p1.trans p2.symm)
  have e : a.1 = b.1 := Int.le_antisymm l1 l2
  obtain ⟨a1, a2⟩ := a
  obtain ⟨b1, b2⟩ := b
  have ma := p1.mem_iff.mp ha
  have mb := p2.mem_iff.mp hb
  have e : a1 = b1 := e
  subst e
  rw [zip_uniq nd ma mb]
theorem byKey_mem {ks : List Int} {xs ys : List V} (h : ByKey ks xs ys) {y : V} (m : y ∈ ys) : y ∈ xs := by
  obtain ⟨ps, p, rfl, _⟩ := h
  obtain ⟨q, hq, rfl⟩ := List.mem_map.mp m
  exact (List.of_mem_zip (p.mem_iff.mp hq)).2
theorem paired_same {R : V → V → Prop} : ∀ {xs : List V}, (∀ x ∈ xs, R x x) → Paired R xs xs
  | [], _ => .nil
  | _ :: _, h => .cons (h _ List.mem_cons_self) (paired_same fun x m => h x (List.mem_cons_of_mem _ m))
theorem paired_both {α β γ : Type} {R : α → β → Prop} {S : α → γ → Prop} {i : Nat} {a : β} : ∀ {xs : List α} {ys : List β} {zs : List γ}, Paired R xs ys → Paired S xs zs → ys[i]? = some a → ∃ x b, xs[i]? = some x ∧ zs[i]? = some b ∧ R x a ∧ S x b := by
  intro xs ys zs h1 h2 e
  obtain ⟨x, ex, r⟩ := paired_at' h1 e
  obtain ⟨b, eb, s⟩ := paired_ix h2 ex
  exact ⟨x, b, ex, eb, r, s⟩
/-- two tables of the same rows are equal -/
theorem done_eq {K : PySem.W.Frag} {G1 G2 H : Hp} {D1 D2 : Addr} {rows : List (Str × List Int × List V)} {k1 k2 : List (L2.Key × V)} (h1 : H D1 = some (.dK k1)) (h2 : H D2 = some (.dK k2)) (d1 : Done G1 H rows k1) (d2 : Done G2 H rows k2) (nd : (rows.map (·.1)).Nodup) (nk : ∀ r ∈ rows, r.2.1.Nodup) (rf : ∀ r ∈ rows, ∀ x ∈ r.2.2, ∃ a, x = .ref a) : EqW K H 3 (.ref D1) (.ref D2) := by
  refine .inr (.inr (.inl (.inr ⟨D1, D2, k1, k2, rfl, rfl, h1, h2, (paired_len d1).symm.trans (paired_len d2), fun p hp => ?_⟩)))
  obtain ⟨i, hi⟩ := List.getElem?_of_mem hp
  obtain ⟨r, q, er, eq, ⟨e1, T, ys, e2, _, e3, e4⟩, ⟨f1, U, zs, f2, _, f3, f4⟩⟩ := paired_both d1 d2 hi
  have nd2 : (k2.map (·.1)).Nodup := by
    rw [d2.keys]
    exact nodup_inr nd
  have rm : r ∈ rows := List.mem_of_getElem? er
  refine ⟨q.2, val_at nd2 (k := p.1) (v := q.2) (by rw [eq, e1, ← f1]), ?_⟩
  have e5 := byKey_uniq (nk r rm) e4 f4
  subst e5
  rw [e2, f2]
  refine .inr (.inr (.inr ⟨T, U, ys, ys, rfl, rfl, SqT.of e3, SqT.of f3, paired_same fun y m => ?_⟩))
  obtain ⟨a, e⟩ := rf r rm y (byKey_mem e4 m)
  exact .inr (.inl ⟨a, e, e⟩)
theorem len_law_right (K : PySem.W.Frag) (Pt : Tb) : ∀ vs H Q E, sp_law_right K Pt vs H Q E → vs.length = ["_law_schema", "_law_parts_here"].length := by
  intro _ _ _ _ h
  unfold sp_law_right at h
  obtain ⟨_, _, _, _, _, _, _, _, _, _, _, _, _, _, _, _, _, rfl, _⟩ := h
  rfl
theorem sorted_go {K : PySem.W.Frag} {Pt : Tb} {H : Hp} {Q : VK} {E : XK} {D : Addr} (rs : List (Row × List Int)) (hD : H D = some (.dK (rs.map fun r => r.1.kv))) (l10 : rs.length ≤ 10) (nd : (rs.map fun r => r.1.name).Nodup)
    (hr : ∀ r ∈ rs, Sq K H r.1.adr r.1.xs ∧ r.1.xs.length ≤ 10 ∧ Paired (fun (k : Int) (y : V) => ∃ t q, y = .ref t ∧ SqT K H t (.int k :: q)) r.2 r.1.xs) (tb : Tbl Pt H)
    (q : ∀ H' D' kvs, Kp [Pt.c] H H' → Tbl Pt H' → H D' = none → H' D' = some (.dK kvs) → Done H H' (rs.map fun r => (r.1.name, r.2, r.1.xs)) kvs → Q (.ref D') H') : sp_law_sorted K Pt [.ref D] H Q E := by
  unfold sp_law_sorted
  exact ⟨D, rs, rfl, hD, l10, nd, hr, tb, q⟩
theorem p_law_right (K : PySem.W.Frag) (C : Addr) (O : Own K C) (Pt : Tb) (vs : List V) (H : Hp) (Q : VK) (E : XK) (h : sp_law_right K Pt vs H Q E) : t_law_right K C Pt { nx := fun _ H' => Q .non H', rt := Q } (start ["_law_schema", "_law_parts_here"] vs) H := by
  unfold sp_law_right at h
  obtain ⟨a, p, dx, D1, D2, E1, E2, root, FK, CK, rank, N, s, k1, k2, H0, H1, rfl, ha, h1, h2, d1, d2, hp, e1, e2, g, tb, q⟩ := h
  obtain ⟨cl, n1, n2, n3, _, _⟩ := O.Schema
  unfold schF at ha
  walk_at "go"
  show b_law_right_0 K C Pt _ [some (.ref a), some (.ref p)] H
  unfold b_law_right_0
  walk_at "go"
  rename_i t1 nt1
  have kA : Kp [] H (upd H t1 (.tup [.ref D1, .ref D2, root])) := Kp.refl.upd_new' nt1
  have ht1 : (upd H t1 (.tup [.ref D1, .ref D2, root])) t1 = some (.tup [.ref D1, .ref D2, root]) := upd_same
  generalize upd H t1 (.tup [.ref D1, .ref D2, root]) = HA at kA ht1 ⊢
  have pA := kA.sqT List.not_mem_nil hp
  have tbA := tb.kp0 kA
  have lk := g.lk
  have lc := g.lc
  have gF : ∀ {G : Hp} {M : List Addr}, Kp M H G → (∀ b ∈ M, NoSq H b) → ∀ r ∈ FK.map (fun r : KRow => (r.r, r.fls.map (·.num))), Sq K G r.1.adr r.1.xs ∧ r.1.xs.length ≤ 10 ∧ Paired (fun (k : Int) (y : V) => ∃ t q, y = .ref t ∧ SqT K G t (.int k :: q)) r.2 r.1.xs := fun k l r hr => by
    obtain ⟨x, hx, rfl⟩ := List.mem_map.mp hr
    have o := (g.okK x hx).kpN k l
    exact ⟨o.sq, g.lsK x hx, paired_map _ (fun f y h => by
      obtain ⟨c, e, g⟩ := h.at_
      exact ⟨c, _, e, g⟩) o.row.at_⟩
  have gC : ∀ {G : Hp} {M : List Addr}, Kp M H G → (∀ b ∈ M, NoSq H b) → ∀ r ∈ CK.map (fun r : CRow => (r.r, r.cs.map (·.num))), Sq K G r.1.adr r.1.xs ∧ r.1.xs.length ≤ 10 ∧ Paired (fun (k : Int) (y : V) => ∃ t q, y = .ref t ∧ SqT K G t (.int k :: q)) r.2 r.1.xs := fun k l r hr => by
    obtain ⟨x, hx, rfl⟩ := List.mem_map.mp hr
    have o := (g.okC x hx).kpN k l
    exact ⟨o.sq, g.lsC x hx, paired_map _ (fun f y h => by
      obtain ⟨c, e, g⟩ := h.at_
      exact ⟨c, _, e, g⟩) o.row.at_⟩
  have mF : (FK.map (fun r : KRow => (r.r, r.fls.map (·.num)))).map (fun r => (r.1.name, r.2, r.1.xs)) = FK.map KRow.row := by
    rw [List.map_map]
    rfl
  have mC : (CK.map (fun r : CRow => (r.r, r.cs.map (·.num)))).map (fun r => (r.1.name, r.2, r.1.xs)) = CK.map CRow.row := by
    rw [List.map_map]
    rfl
  walk_at "go"
  refine sorted_go (FK.map fun r : KRow => (r.r, r.fls.map (·.num))) (by rw [List.map_map]; exact kA.at_ List.not_mem_nil e1) (by rw [List.length_map]; exact lk) (by rw [List.map_map]; exact g.nk) (gF kA fun b m => nomatch m) tbA fun HB F1 q1 kB tbB nF1 hF1 dF1 => ?_
  rw [mF] at dF1
  have kHB : Kp [Pt.c] H HB := (kA.mono fun a m => nomatch m).trans kB
  have lc0 : ∀ b ∈ [Pt.c], NoSq H b := one (noSq_tab tb.c)
  have pB := sqT_kpN kHB lc0 hp
  have notC : ∀ {x : Addr} {o : HO}, H x = some o → (∀ ps, o ≠ .tbl ps) → x ∉ [Pt.c] := fun h n m => tabS_ne tb.c h n (List.mem_singleton.mp m)
  walk_at "go"
  refine sorted_go (CK.map fun r : CRow => (r.r, r.cs.map (·.num))) (by rw [List.map_map]; exact kHB.at_ (notC e2 fun _ e => by cases e) e2) (by rw [List.length_map]; exact lc) (by rw [List.map_map]; exact g.nc) (gC kHB lc0) tbB fun HC F2 q2 kC tbC nF2 hF2 dF2 => ?_
  rw [mC] at dF2
  have kHC : Kp [Pt.c] H HC := kHB.trans kC
  have pC := sqT_kpN kHC lc0 hp
  have lcA : ∀ b ∈ [Pt.c], NoSq HA b := one (noSq_tab tbA.c)
  have lcB : ∀ b ∈ [Pt.c], NoSq HB b := one (noSq_tab tbB.c)
  have ht1C : SqT K HC t1 [.ref D1, .ref D2, root] := sqT_kpN (kB.trans kC) lcA (SqT.of ht1)
  have hF1C := kC.at_ (fun m => tabS_ne tbB.c hF1 (fun ps e => by cases e) (List.mem_singleton.mp m)) hF1
  have h1C := kHC.at_ (notC h1 fun _ e => by cases e) h1
  have h2C := kHC.at_ (notC h2 fun _ e => by cases e) h2
  have d1C := d1.kp kHC lc0
  have d2C := d2.kp kHC lc0
  have dF1C := dF1.kp kC lcB
  walk_at "go"
  rename_i t2 nt2
  have kD : Kp [] HC (upd HC t2 (.tup [.ref F1, .ref F2, root])) := Kp.refl.upd_new' nt2
  have ht2 : (upd HC t2 (.tup [.ref F1, .ref F2, root])) t2 = some (.tup [.ref F1, .ref F2, root]) := upd_same
  generalize upd HC t2 (.tup [.ref F1, .ref F2, root]) = HD at kD ht2 ⊢
  have ll : ∀ b ∈ ([] : List Addr), NoSq HC b := fun b m => nomatch m
  have q1 : EqW K HD 3 (.ref D1) (.ref F1) := done_eq (kD.at_ List.not_mem_nil h1C) (kD.at_ List.not_mem_nil hF1C) (d1C.kp kD ll) (dF1C.kp kD ll) (by rw [List.map_map]; exact g.nk) (fun r hr => by
    obtain ⟨x, hx, rfl⟩ := List.mem_map.mp hr
    exact (g.okK x hx).row.nums) fun r hr y hy => by
    obtain ⟨x, hx, rfl⟩ := List.mem_map.mp hr
    obtain ⟨i, hi⟩ := List.getElem?_of_mem hy
    obtain ⟨f, _, fv⟩ := paired_at' (g.okK x hx).row.at_ hi
    obtain ⟨c, e, _⟩ := fv.at_
    exact ⟨c, e⟩
  have q2 : EqW K HD 3 (.ref D2) (.ref F2) := done_eq (kD.at_ List.not_mem_nil h2C) (kD.at_ List.not_mem_nil hF2) (d2C.kp kD ll) (dF2.kp kD ll) (by rw [List.map_map]; exact g.nc) (fun r hr => by
    obtain ⟨x, hx, rfl⟩ := List.mem_map.mp hr
    exact (g.okC x hx).row.nums) fun r hr y hy => by
    obtain ⟨x, hx, rfl⟩ := List.mem_map.mp hr
    obtain ⟨i, hi⟩ := List.getElem?_of_mem hy
    obtain ⟨f, _, fv⟩ := paired_at' (g.okC x hx).row.at_ hi
    obtain ⟨c, e, _⟩ := fv.at_
    exact ⟨c, e⟩
  obtain ⟨ra, _, _, er, _⟩ := g.srt.tup
  have q3 : EqW K HD 3 root root := .inr (.inl ⟨ra, er, er⟩)
  exact .inr (.inl ⟨3, by decide, .inr ⟨t1, t2, _, _, rfl, rfl, kD.sqT List.not_mem_nil ht1C, SqT.of ht2, .cons q1 (.cons q2 (.cons q3 .nil))⟩, q _ (kHC.trans (kD.mono fun a m => nomatch m)) (tbC.kp0 kD)⟩)
end K02

-- imports: K02S6 K02L0 K02L1 K02L2 K02L3 K02L4 K02L5 K02L6 K02L7 K02L8 K02L9 K02L10
/-! ## k02: the law's turns -/
namespace K02
open PySem PySem.Spec PyProof.Rows L2 Kb
open LamX (TabS)
section
variable {K : PySem.W.Frag} {H H' : Hp} {M : List Addr} {a p dx D1 D2 E1 E2 Lk : Addr} {root : V} {FK : List KRow} {CK : List CRow} {rank : Str → Nat} {N : Nat} {s : Srt} {k1 k2 : List (L2.Key × V)} {G0 G1 : Hp} {Pt : Tb}
/-- a schema at a that has the parts at p -/
structure Rg (K : PySem.W.Frag) (H : Hp) (a p dx D1 D2 E1 E2 : Addr) (root : V) (FK : List KRow) (CK : List CRow) (rank : Str → Nat) (N : Nat) (s : Srt) (k1 k2 : List (L2.Key × V)) (G0 G1 : Hp) : Prop where
  ha : H a = some (.ins (cAt K "Schema") dx (schF D1 D2 root))
  h1 : H D1 = some (.dK k1)
  h2 : H D2 = some (.dK k2)
  d1 : Done G0 H (FK.map KRow.row) k1
  d2 : Done G1 H (CK.map CRow.row) k2
  hp : SqT K H p [.ref E1, .ref E2, root]
  e1 : H E1 = some (.dK (FK.map KRow.kv))
  e2 : H E2 = some (.dK (CK.map CRow.kv))
  g : Good K H FK CK rank N s root
  rF : ∀ r ∈ FK, H r.adr = some (.lst r.xs)
  rC : ∀ r ∈ CK, H r.adr = some (.lst r.xs)
theorem right_go {Q : VK} {E : XK} (r : Rg K H a p dx D1 D2 E1 E2 root FK CK rank N s k1 k2 G0 G1) (tb : Tbl Pt H) (q : ∀ H', Kp [Pt.c] H H' → Tbl Pt H' → Q (.bl true) H') : sp_law_right K Pt [.ref a, .ref p] H Q E := by
  unfold sp_law_right
  exact ⟨a, p, dx, D1, D2, E1, E2, root, FK, CK, rank, N, s, k1, k2, G0, G1, rfl, r.ha, r.h1, r.h2, r.d1, r.d2, r.hp, r.e1, r.e2, r.g, tb, q⟩
theorem Done.kpT {G : Hp} {rs : List (Str × List Int × List V)} {kvs : List (L2.Key × V)} (h : Done G H rs kvs) (k : Kp M H H') (l : ∀ b ∈ M, NoT H b) : Done G H' rs kvs :=
  paired_imp (fun _ _ g => by
    obtain ⟨e, T, ys, e1, e2, e3, e4⟩ := g
    exact ⟨e, T, ys, e1, e2, k _ _ (fun m => (l T m _ e3).1 _ rfl) e3, e4⟩) h
theorem Good.kpT (g : Good K H FK CK rank N s root) (k : Kp M H H') (l : ∀ b ∈ M, NoT H b) (rF : ∀ r ∈ FK, H r.adr = some (.lst r.xs) ∧ r.adr ∉ M) (rC : ∀ r ∈ CK, H r.adr = some (.lst r.xs) ∧ r.adr ∉ M) : Good K H' FK CK rank N s root :=
  ⟨g.lk, g.lc, g.nk, g.nc, fun r hr => ⟨(g.okK r hr).name, .inl (k.at_ (rF r hr).2 (rF r hr).1), (g.okK r hr).row.kpT k l⟩, fun r hr => ⟨(g.okC r hr).name, .inl (k.at_ (rC r hr).2 (rC r hr).1), (g.okC r hr).row.kpT k l, (g.okC r hr).up⟩, g.N, g.srt.kpT k l, g.sok, g.lsK, g.lsC⟩
theorem Rg.kp (r : Rg K H a p dx D1 D2 E1 E2 root FK CK rank N s k1 k2 G0 G1) (k : Kp M H H') (l : ∀ b ∈ M, NoT H b) (na : a ∉ M) (n1 : D1 ∉ M) (n2 : D2 ∉ M) (m1 : E1 ∉ M) (m2 : E2 ∉ M) (nF : ∀ r ∈ FK, r.adr ∉ M) (nC : ∀ r ∈ CK, r.adr ∉ M) : Rg K H' a p dx D1 D2 E1 E2 root FK CK rank N s k1 k2 G0 G1 :=
  ⟨k.at_ na r.ha, k.at_ n1 r.h1, k.at_ n2 r.h2, r.d1.kpT k l, r.d2.kpT k l, sqT_kpT k l r.hp, k.at_ m1 r.e1, k.at_ m2 r.e2, r.g.kpT k l (fun x hx => ⟨r.rF x hx, nF x hx⟩) (fun x hx => ⟨r.rC x hx, nC x hx⟩), fun x hx => k.at_ (nF x hx) (r.rF x hx), fun x hx => k.at_ (nC x hx) (r.rC x hx)⟩
/-- nothing that a schema or its parts are made of stands at b, but for lists at Lk -/
structure Fine (H : Hp) (Lk b : Addr) : Prop where
  t : NoT H b
  d : ∀ kvs, H b ≠ some (.dK kvs)
  i : ∀ C dx fs, H b ≠ some (.ins C dx fs)
  l : b = Lk ∨ ∀ xs, H b ≠ some (.lst xs)
theorem Rg.fine (r : Rg K H a p dx D1 D2 E1 E2 root FK CK rank N s k1 k2 G0 G1) (k : Kp M H H') (f : ∀ b ∈ M, Fine H Lk b) (nF : ∀ r ∈ FK, r.adr ≠ Lk) (nC : ∀ r ∈ CK, r.adr ≠ Lk) : Rg K H' a p dx D1 D2 E1 E2 root FK CK rank N s k1 k2 G0 G1 :=
  r.kp k (fun b m => (f b m).t) (fun m => (f _ m).i _ _ _ r.ha) (fun m => (f _ m).d _ r.h1) (fun m => (f _ m).d _ r.h2) (fun m => (f _ m).d _ r.e1) (fun m => (f _ m).d _ r.e2) (fun x hx m => (f _ m).l.elim (nF x hx) fun z => z _ (r.rF x hx)) (fun x hx m => (f _ m).l.elim (nC x hx) fun z => z _ (r.rC x hx))
/-- a schema kept with its parts -/
def Kept (K : PySem.W.Frag) (Lk : Addr) (H : Hp) (v : V) : Prop := ∃ t a p dx D1 D2 E1 E2 root FK CK rank N s k1 k2, ∃ G0 G1 : Hp, v = .ref t ∧ SqT K H t [.ref a, .ref p] ∧ Rg K H a p dx D1 D2 E1 E2 root FK CK rank N s k1 k2 G0 G1 ∧ (∀ r ∈ FK, r.adr ≠ Lk) ∧ ∀ r ∈ CK, r.adr ≠ Lk
theorem Kept.kp {v : V} (h : Kept K Lk H v) (k : Kp M H H') (f : ∀ b ∈ M, Fine H Lk b) : Kept K Lk H' v := by
  obtain ⟨t, a, p, dx, D1, D2, E1, E2, root, FK, CK, rank, N, s, k1, k2, G0, G1, e, ht, r, nF, nC⟩ := h
  exact ⟨t, a, p, dx, D1, D2, E1, E2, root, FK, CK, rank, N, s, k1, k2, G0, G1, e, sqT_kpT k (fun b m => (f b m).t) ht, r.fine k f nF nC, nF, nC⟩
theorem fine_tab {P : Addr} {q : Str} (t : TabS H P q) : Fine H Lk P := by
  obtain ⟨ps, h1, _⟩ := id t
  exact ⟨noT_of (noSq_tab t), (fun kvs e => by rw [h1] at e; cases e), (fun C dx fs e => by rw [h1] at e; cases e), .inr (fun xs e => by rw [h1] at e; cases e)⟩
theorem fine_lst {xs : List V} (h : H Lk = some (.lst xs)) : Fine H Lk Lk :=
  ⟨noT_lst h, (fun kvs e => by rw [h] at e; cases e), (fun C dx fs e => by rw [h] at e; cases e), .inl rfl⟩
end
theorem all_rep : ∀ n : Nat, (List.replicate n true).all id = true
  | 0 => rfl
  | n + 1 => by rw [List.replicate_succ, List.all_cons, all_rep n]; rfl
section
variable {K : PySem.W.Frag} {C : Addr} {D : Ends} {H : Hp} {Pt : Tb} {Lk : Addr} {u0 u2 u3 u4 u5 u6 u7 u8 u9 u10 : Option V}
theorem law_5 {kept : List V} (hL : H Lk = some (.lst kept)) (l7 : kept.length ≤ 100) (hk : ∀ v ∈ kept, Kept K Lk H v) (tb : Tbl Pt H) (q : ∀ H', D.rt (.bl true) H') : b_law_5 K C Pt D [u0, some (.ref Lk), u2, u3, u4, u5, u6, u7, u8, u9, u10] H := by
  unfold b_law_5
  walk_at "go"
  refine ⟨Lk, kept, rfl, SqL.of hL, fun p1 np1 => ⟨p1, rfl, ⟨_, SqL.of upd_same⟩, fun F nF => ?_⟩⟩
  have k1 : Kp [] H (upd H p1 (.lst kept.reverse)) := Kp.refl.upd_new' np1
  have h1 : (upd H p1 (.lst kept.reverse)) p1 = some (.lst kept.reverse) := upd_same
  generalize upd H p1 (.lst kept.reverse) = H1 at k1 h1 nF ⊢
  have tb1 := tb.kp0 k1
  have hk1 : ∀ v ∈ kept, Kept K Lk H1 v := fun v m => (hk v m).kp k1 fun b m => nomatch m
  have pc : p1 ∉ [Pt.c] := fun m => tabS_ne tb1.c h1 (fun ps e => by cases e) (List.mem_singleton.mp m)
  have FP : F ∉ [Pt.c] := fun m => by
    obtain ⟨ps, h, _⟩ := tb1.c
    rw [← List.mem_singleton.mp m, nF] at h
    cases h
  have fc : ∀ b ∈ [Pt.c], Fine H1 Lk b := one (P := fun H b => Fine H Lk b) (fine_tab tb1.c)
  refine lc_acc (walk_list (xs := kept.reverse)) (fun i acc H' => Kp [Pt.c] H1 H' ∧ Tbl Pt H' ∧ acc = (List.replicate i true).map V.bl) ⟨Kp.refl.upd_new nF, tb1.kp0 (Kp.refl.upd_new' nF), rfl⟩ (fun i acc H' _ h => SqL.of (h.1.at_ pc h1)) (fun i x acc Hc Hd hi hl hF hP hY => ?_) (fun acc Hc hl hF hP => ?_)
  · obtain ⟨kb, tbc, e⟩ := hP
    obtain ⟨rfl, ex⟩ := hY
    have xm : x ∈ kept := List.mem_reverse.mp (List.mem_of_getElem? ex)
    have hi2 : i < 100 := by rw [List.length_reverse] at hi; omega
    obtain ⟨t, a, p, dx, D1, D2, E1, E2, root, FK, CK, rank, N, s, k1, k2, G0, G1, rfl, ht, r, nF', nC'⟩ := (hk1 x xm).kp kb fc
    refine gTup_go ht rfl ?_
    walk_at "go"
    refine right_go r tbc fun H2 k2 tb2 => ?_
    have hF2 := k2.at_ FP hF
    subst e
    refine acc_go hl (by omega) hF2 ⟨(kb.trans k2).upd_new nF, tb2.updM hF2 (fun ps e => by cases e) (fun c z e => by cases e), ?_⟩
    rw [List.replicate_succ', List.map_append]
    rfl
  · obtain ⟨kb, tbc, rfl⟩ := hP
    unfold tNil
    refine all_go (SqL.of hF) ?_
    rw [all_rep]
    exact q _
end
end K02

-- imports: K02S6 K02L0 K02L1 K02L2 K02L3 K02L4 K02L5 K02L6 K02L7 K02L8 K02L9 K02L10 K02L11
/-! ## k02: what was handed in, changed behind -/
namespace K02
open PySem PySem.Spec PyProof.Rows L2 Kb
open LamX (TabS)
/-- a row handed in, added to n times at most -/
def RowSt (n : Nat) (H : Hp) (r : Row) : Prop := (∃ xs, H r.adr = some (.lst xs) ∧ xs.length ≤ n) ∨ ∃ xs, H r.adr = some (.tup xs)
theorem RowSt.mono {n m : Nat} {H : Hp} {r : Row} (h : RowSt n H r) (l : n ≤ m) : RowSt m H r := h.imp (fun ⟨xs, a, b⟩ => ⟨xs, a, by omega⟩) id
theorem RowSt.add {n : Nat} {H : Hp} {r r' : Row} {xs : List V} {v : V} (h : RowSt n H r) (l : xs.length ≤ n) : RowSt (n + 1) (upd H r'.adr (.lst (xs ++ [v]))) r := by
  by_cases c : r.adr = r'.adr
  · rw [show RowSt (n + 1) (upd H r'.adr (.lst (xs ++ [v]))) r = _ from rfl]
    exact .inl ⟨xs ++ [v], by rw [c, upd_same], by simp; omega⟩
  · exact h.imp (fun ⟨ys, a, b⟩ => ⟨ys, (upd_ne c).trans a, by omega⟩) fun ⟨ys, a⟩ => ⟨ys, (upd_ne c).trans a⟩
theorem RowSt.not {n : Nat} {H : Hp} {r : Row} {b : Addr} {kvs : List (L2.Key × V)} (h : RowSt n H r) (e : H b = some (.dK kvs)) : b ≠ r.adr := fun z => by
  subst z
  rcases h with ⟨_, h, _⟩ | ⟨_, h⟩ <;> rw [e] at h <;> cases h
/-- the tuples among the rows are kept -/
def TupK (H H' : Hp) (rs : List Row) : Prop := ∀ r ∈ rs, ∀ xs, H r.adr = some (.tup xs) → H' r.adr = some (.tup xs)
def isL : Option HO → Bool
  | some (.lst _) => true
  | _ => false
/-- where what was handed in may change -/
def Chg (H : Hp) (T1 T2 : Addr) (rs : List Row) : List Addr := T1 :: T2 :: (rs.filter fun r => isL (H r.adr)).map Row.adr
theorem kp_chg {H H' : Hp} {T1 T2 : Addr} {rs : List Row} (k : Kp (T1 :: T2 :: rs.map Row.adr) H H') (t : TupK H H' rs) (hr : ∀ r ∈ rs, H r.adr = some (.lst r.xs) ∨ H r.adr = some (.tup r.xs)) : Kp (Chg H T1 T2 rs) H H' := fun a o n e => by
  by_cases m : a ∈ rs.map Row.adr
  · obtain ⟨r, hr', rfl⟩ := List.mem_map.mp m
    rcases hr r hr' with h | h
    · exact absurd (List.mem_cons_of_mem _ (List.mem_cons_of_mem _ (List.mem_map.mpr ⟨r, List.mem_filter.mpr ⟨hr', by rw [h]; rfl⟩, rfl⟩))) n
    · rw [h] at e
      cases e
      exact t r hr' _ h
  · refine k a o (fun z => ?_) e
    rcases List.mem_cons.mp z with z | z
    · exact n (by rw [z]; exact List.mem_cons_self)
    · rcases List.mem_cons.mp z with z | z
      · exact n (by rw [z]; exact List.mem_cons_of_mem _ List.mem_cons_self)
      · exact m z
section
variable {K : PySem.W.Frag} {C : Addr} {D : Ends} {H : Hp} {Pt : Tb} {u0 u1 u2 u3 u4 u5 u6 u7 u8 u9 u10 : Option V}
theorem changed_in {rs rsT : List Row} {T : Addr} {n : Nat} (hT : H T = some (.dK (rsT.map Row.kv))) (sub : ∀ r ∈ rsT, r ∈ rs) (st : ∀ r ∈ rs, RowSt n H r) (lT : rsT.length ≤ 10) (hn : n ≤ 100)
    (q : ∀ H' u10, Kp (rs.map Row.adr) H H' → TupK H H' rs → (∀ r ∈ rs, RowSt (n + 10) H' r) → D.nx [u0, u1, u2, u3, u4, u5, u6, u7, u8, some (.ref T), u10] H') :
    (tLock (tFor (iVals (tVar 9)) (gName 10) (tIfS (tTru K (tCB (rIsiU K) (tCons (tVar 10) (tCons (tC (.ty "list")) tNil)))) (tDrop (tBM K "list" rAppU (tVar 10) (tCons (tC (.int 0)) tNil))) tNext))) D [u0, u1, u2, u3, u4, u5, u6, u7, u8, some (.ref T), u10] H := by
  refine ⟨T, .dK (rsT.map Row.kv), hT, trivial, fun od => ⟨_, rfl, T, od, _, rfl, upd_same, ?_⟩⟩
  obtain ⟨G, eG⟩ : ∃ G, G = upd H T (.frz od (.dK (rsT.map Row.kv))) := ⟨_, rfl⟩
  have gT : G T = some (.frz od (.dK (rsT.map Row.kv))) := by rw [eG]; exact upd_same
  have Tn : T ∉ rs.map Row.adr := fun m => by
    obtain ⟨r, hr, e⟩ := List.mem_map.mp m
    exact (st r hr).not hT e.symm
  have stG : ∀ r ∈ rs, RowSt n G r := fun r hr => by
    have ne : r.adr ≠ T := ((st r hr).not hT).symm
    rw [eG]
    exact (st r hr).imp (fun ⟨ys, a, b⟩ => ⟨ys, (upd_ne ne).trans a, b⟩) fun ⟨ys, a⟩ => ⟨ys, (upd_ne ne).trans a⟩
  rw [← eG]
  refine for_it walk_values (fun i σ H' => ∃ u10, σ = [u0, u1, u2, u3, u4, u5, u6, u7, u8, some (.ref T), u10] ∧ Kp (rs.map Row.adr) G H' ∧ TupK G H' rs ∧ ∀ r ∈ rs, RowSt (n + i) H' r) ⟨_, rfl, Kp.refl, (fun _ _ _ h => h), stG⟩ (fun i σ H' _ ⟨_, _, k, _⟩ => k.at_ Tn gT) ?_ (fun σ H' h => ?_)
  · rintro i x σ Ha Hb hi ⟨v10, rfl, ka, tk, sta⟩ ⟨rfl, k, ex⟩
    rw [List.getElem?_map] at ex
    obtain ⟨r, er, e⟩ := Option.map_eq_some_iff.mp ex
    cases e
    have rm := sub r (List.mem_of_getElem? er)
    have hi10 : i < 10 := by rw [List.length_map] at hi; omega
    rcases sta r rm with ⟨xs, hx, lx⟩ | ⟨xs, hx⟩
    · walk_at "go"
      have tk' : TupK G (upd Hb r.adr (.lst (xs ++ [.int 0]))) rs := fun r' hr' ys e => by
        have e2 := tk r' hr' ys e
        rw [upd_ne (fun z => by rw [z, hx] at e2; cases e2)]
        exact e2
      all_goals first
        | exact ka.upd_in (List.mem_map.mpr ⟨r, rm, rfl⟩)
        | exact ⟨tk', fun r' hr' => (sta r' hr').add lx⟩
        | exact ⟨ka.upd_in (List.mem_map.mpr ⟨r, rm, rfl⟩), tk', fun r' hr' => (sta r' hr').add lx⟩
    · walk_at "go"
      all_goals first
        | exact fun r' hr' => (sta r' hr').mono (by omega)
        | exact ⟨tk, fun r' hr' => (sta r' hr').mono (by omega)⟩
        | exact ⟨ka, tk, fun r' hr' => (sta r' hr').mono (by omega)⟩
  · obtain ⟨v10, rfl, ka, tk, sta⟩ := h
    refine ⟨ka.at_ Tn gT, ?_⟩
    refine q _ v10 (Kp.unlock (f := .frz od (.dK (rsT.map Row.kv))) (by rw [← eG]; exact ka) hT) (fun r hr ys e => ?_) fun r hr => ?_
    · have ne : r.adr ≠ T := ((st r hr).not hT).symm
      exact (upd_ne ne).trans (tk r hr ys (by rw [eG]; exact (upd_ne ne).trans e))
    have ne : r.adr ≠ T := ((st r hr).not hT).symm
    have s1 : RowSt (n + 10) H' r := (sta r hr).mono (by rw [List.length_map]; omega)
    exact s1.imp (fun ⟨ys, a, b⟩ => ⟨ys, (upd_ne ne).trans a, b⟩) fun ⟨ys, a⟩ => ⟨ys, (upd_ne ne).trans a⟩
theorem law_3 {rs1 rs2 : List Row} {p5 T1 T2 : Addr} (h5 : H p5 = some (.lst [.ref T1, .ref T2])) (t1 : H T1 = some (.dK (rs1.map Row.kv))) (t2 : H T2 = some (.dK (rs2.map Row.kv))) (T12 : T1 ≠ T2) (hr : ∀ r ∈ rs1 ++ rs2, (H r.adr = some (.lst r.xs) ∨ H r.adr = some (.tup r.xs)) ∧ r.xs.length ≤ 10) (l1 : rs1.length ≤ 10) (l2 : rs2.length ≤ 10) (n5 : ∀ r ∈ rs1 ++ rs2, p5 ≠ r.adr)
    (q : ∀ H' u9 u10, Kp (Chg H T1 T2 (rs1 ++ rs2)) H H' → b_law_4 K C Pt D [u0, u1, u2, u3, u4, some (.ref p5), u6, u7, u8, u9, u10] H') :
    b_law_3 K C Pt D [u0, u1, u2, u3, u4, some (.ref p5), u6, u7, u8, u9, u10] H := by
  have p5T1 : p5 ≠ T1 := fun e => by rw [e, t1] at h5; cases h5
  have p5T2 : p5 ≠ T2 := fun e => by rw [e, t2] at h5; cases h5
  have nm5 : p5 ∉ T1 :: T2 :: (rs1 ++ rs2).map Row.adr := fun m => by
    rcases List.mem_cons.mp m with e | m
    · exact p5T1 e
    · rcases List.mem_cons.mp m with e | m
      · exact p5T2 e
      · obtain ⟨r, hr, e⟩ := List.mem_map.mp m
        exact n5 r hr e.symm
  have st0 : ∀ r ∈ rs1 ++ rs2, RowSt 10 H r := fun r m => (hr r m).1.elim (fun h => .inl ⟨_, h, (hr r m).2⟩) fun h => .inr ⟨_, h⟩
  have T2n : T2 ∉ (rs1 ++ rs2).map Row.adr := fun m => by
    obtain ⟨r, hr, e⟩ := List.mem_map.mp m
    exact (st0 r hr).not t2 e.symm
  have T1n : ∀ r ∈ rs1 ++ rs2, T1 ≠ r.adr := fun r hr => (st0 r hr).not t1
  have T2m : ∀ r ∈ rs1 ++ rs2, T2 ≠ r.adr := fun r hr => (st0 r hr).not t2
  unfold b_law_3
  walk_at "go"
  refine ⟨⟨_, SqL.of h5⟩, ?_⟩
  have sub1 : ∀ r ∈ rs1, r ∈ rs1 ++ rs2 := fun r m => List.mem_append_left _ m
  have sub2 : ∀ r ∈ rs2, r ∈ rs1 ++ rs2 := fun r m => List.mem_append_right _ m
  refine for_it (walk_list (xs := [.ref T1, .ref T2])) (fun i σ H' => ∃ u9 u10, σ = [u0, u1, u2, u3, u4, some (.ref p5), u6, u7, u8, u9, u10] ∧ Kp (T1 :: T2 :: (rs1 ++ rs2).map Row.adr) H H' ∧ TupK H H' (rs1 ++ rs2) ∧ (∀ r ∈ rs1 ++ rs2, RowSt (10 + 10 * i) H' r) ∧ (i = 0 → H' T1 = some (.dK (rs1.map Row.kv))) ∧ (i ≤ 1 → H' T2 = some (.dK (rs2.map Row.kv)))) ⟨_, _, rfl, Kp.refl, (fun _ _ _ h => h), st0, fun _ => t1, fun _ => t2⟩ (fun i σ H' _ ⟨_, _, _, k, _⟩ => SqL.of (k.at_ nm5 h5)) ?_ (fun σ H' h => ?_)
  · rintro i x σ Ha Hb hi ⟨v9, v10, rfl, ka, tk, sta, ta, tb⟩ ⟨rfl, ex⟩
    have hi2 : i < 2 := hi
    obtain ⟨T, rsT, rfl, hT, sub, lT, Tn, Tm, T12'⟩ : ∃ (T : Addr) (rsT : List Row), x = .ref T ∧ Hb T = some (.dK (rsT.map Row.kv)) ∧ (∀ r ∈ rsT, r ∈ rs1 ++ rs2) ∧ rsT.length ≤ 10 ∧ (T = T1 ∨ T = T2) ∧ (∀ r ∈ rs1 ++ rs2, T ≠ r.adr) ∧ (i = 0 → T ≠ T2) := by
      match i, ex, ta, tb with
      | 0, ex, ta, _ => cases ex; exact ⟨T1, rs1, rfl, ta rfl, sub1, l1, .inl rfl, T1n, fun _ => T12⟩
      | 1, ex, _, tb => cases ex; exact ⟨T2, rs2, rfl, tb (Nat.le_refl _), sub2, l2, .inr rfl, T2m, fun e => by cases e⟩
      | n + 2, ex, _, _ => cases ex
    have mT : T ∈ T1 :: T2 :: (rs1 ++ rs2).map Row.adr := Tn.elim (fun e => by rw [e]; exact List.mem_cons_self) fun e => by rw [e]; exact List.mem_cons_of_mem _ List.mem_cons_self
    refine changed_in (u5 := some (.ref p5)) hT sub sta lT (by omega) fun H2 v10 k2 tk2 st2 => ?_
    have Tn2 : T ∉ (rs1 ++ rs2).map Row.adr := fun m => by
      obtain ⟨r, hr, e⟩ := List.mem_map.mp m
      exact Tm r hr e.symm
    have hT2 := k2.at_ Tn2 hT
    walk_at "go"
    refine ⟨.inr (.inr (.inl ⟨rfl, .inl ⟨_, hT2⟩⟩)), T, _, rfl, rfl, hT2, ?_⟩
    exact ⟨_, _, rfl, (ka.trans (k2.mono fun a m => List.mem_cons_of_mem _ (List.mem_cons_of_mem _ m))).upd_in mT, (fun r hr ys e => (upd_ne (Tm r hr).symm).trans (tk2 r hr ys (tk r hr ys e))), (fun r hr => by
      have ne : r.adr ≠ T := (Tm r hr).symm
      exact ((st2 r hr).mono (by omega)).imp (fun ⟨ys, a, b⟩ => ⟨ys, (upd_ne ne).trans a, b⟩) fun ⟨ys, a⟩ => ⟨ys, (upd_ne ne).trans a⟩), fun e => by omega, fun e => by
      rw [upd_ne (T12' (by omega)).symm]
      exact k2.at_ T2n (tb (by omega))⟩
  · obtain ⟨v9, v10, rfl, ka, tk, sta, _, _⟩ := h
    exact q _ _ _ (kp_chg ka tk fun r m => (hr r m).1)
end
end K02

-- imports: K02S6 K02L0 K02L1 K02L2 K02L3 K02L4 K02L5 K02L6 K02L7 K02L8 K02L9 K02L10 K02L11 K02L12
/-! ## k02: a turn of the law -/
namespace K02
open PySem PySem.Spec PyProof.Rows L2 Kb
open LamX (TabS)
theorem paired_two {α β γ : Type} {R : α → β → Prop} {S : α → γ → Prop} {T : β → γ → Prop} : ∀ {xs : List α} {ys : List β} {zs : List γ}, Paired R xs ys → Paired S xs zs → (∀ a ∈ xs, ∀ b c, R a b → S a c → T b c) → Paired T ys zs
  | _, _, _, .nil, .nil, _ => .nil
  | _, _, _, .cons r t, .cons s u, h => .cons (h _ List.mem_cons_self _ _ r s) (paired_two t u fun a m => h a (List.mem_cons_of_mem _ m))
/-- two copies of a table are equal -/
theorem cop_eq {K : PySem.W.Frag} {H : Hp} {rs : List Row} {x y : V} (h1 : Cop K H rs x) (h2 : Cop K H rs y) (rf : ∀ r ∈ rs, ∀ v ∈ r.xs, ∃ a, v = .ref a) : EqN K H 4 x y := by
  obtain ⟨l, xs, rfl, hl, p1⟩ := h1
  obtain ⟨m, ys, rfl, hm, p2⟩ := h2
  refine .inr (.inr ⟨l, m, xs, ys, rfl, rfl, .inl ⟨SqL.of hl, SqL.of hm⟩, paired_two p1 p2 fun r hr u v g1 g2 => ?_⟩)
  obtain ⟨t, c, b, rfl, ht, hc, b1, b2⟩ := g1
  obtain ⟨t', c', b', rfl, ht', hc', b1', b2'⟩ := g2
  have e : b = b' := by
    cases b <;> cases b'
    · rfl
    · have h := b2 rfl
      rw [b1' rfl] at h
      cases h
    · have h := b2' rfl
      rw [b1 rfl] at h
      cases h
    · rfl
  subst e
  refine .inr (.inr ⟨t, t', _, _, rfl, rfl, .inr ⟨ht, ht'⟩, .cons (.inl ⟨rfl, rfl⟩) (.cons (.inl ⟨rfl, rfl⟩) (.cons (.inr (.inr ⟨c, c', _, _, rfl, rfl, .inl ⟨SqL.of hc, SqL.of hc'⟩, paired_same fun v hv => ?_⟩)) .nil))⟩)
  obtain ⟨a, e⟩ := rf r hr v hv
  exact .inr (.inl ⟨a, e, e⟩)
/-- no list, tuple or dict at b -/
def Nix (H : Hp) (b : Addr) : Prop := NoSq H b ∧ ∀ kvs, H b ≠ some (.dK kvs)
theorem nix_tab {H : Hp} {P : Addr} {q : Str} (t : TabS H P q) : Nix H P := ⟨noSq_tab t, (fine_tab (Lk := P) t).d⟩
section
variable {K : PySem.W.Frag} {H H' : Hp} {M : List Addr} {p5 l6 T1 T2 : Addr} {x y : V} {rs1 rs2 : List Row}
theorem Cop.kpN {rs : List Row} (h : Cop K H rs x) (k : Kp M H H') (f : ∀ b ∈ M, NoSq H b) : Cop K H' rs x := by
  obtain ⟨l, xs, e, hl, p1⟩ := h
  have kl : ∀ {a xs}, H a = some (.lst xs) → H' a = some (.lst xs) := fun h => k.at_ (fun m => (f _ m _ h).2.2 _ rfl) h
  refine ⟨l, xs, e, kl hl, paired_imp (fun r v g => ?_) p1⟩
  obtain ⟨t, c, b, e, ht, hc, b1, b2⟩ := g
  exact ⟨t, c, b, e, sqT_kpN k f ht, kl hc, fun z => kl (b1 z), fun z => k.at_ (fun m => (f _ m _ (b2 z)).1 _ rfl) (b2 z)⟩
/-- what is handed in, and its form -/
structure Hnd (K : PySem.W.Frag) (H : Hp) (p5 l6 T1 T2 : Addr) (x y : V) (rs1 rs2 : List Row) : Prop where
  h5 : H p5 = some (.lst [.ref T1, .ref T2])
  t1 : H T1 = some (.dK (rs1.map Row.kv))
  t2 : H T2 = some (.dK (rs2.map Row.kv))
  T12 : T1 ≠ T2
  hr : ∀ r ∈ rs1 ++ rs2, (H r.adr = some (.lst r.xs) ∨ H r.adr = some (.tup r.xs)) ∧ r.xs.length ≤ 10
  l1 : rs1.length ≤ 10
  l2 : rs2.length ≤ 10
  n5 : ∀ r ∈ rs1 ++ rs2, p5 ≠ r.adr
  h6 : H l6 = some (.lst [x, y])
  c1 : Cop K H rs1 x
  c2 : Cop K H rs2 y
  rf : ∀ r ∈ rs1 ++ rs2, ∀ v ∈ r.xs, ∃ a, v = .ref a
theorem Hnd.kp (h : Hnd K H p5 l6 T1 T2 x y rs1 rs2) (k : Kp M H H') (f : ∀ b ∈ M, Nix H b) : Hnd K H' p5 l6 T1 T2 x y rs1 rs2 := by
  have kl : ∀ {a xs}, H a = some (.lst xs) → H' a = some (.lst xs) := fun h => k.at_ (fun m => ((f _ m).1 _ h).2.2 _ rfl) h
  have kt : ∀ {a xs}, H a = some (.tup xs) → H' a = some (.tup xs) := fun h => k.at_ (fun m => ((f _ m).1 _ h).1 _ rfl) h
  have kd : ∀ {a xs}, H a = some (.dK xs) → H' a = some (.dK xs) := fun h => k.at_ (fun m => (f _ m).2 _ h) h
  exact ⟨kl h.h5, kd h.t1, kd h.t2, h.T12, fun r m => ⟨(h.hr r m).1.imp kl kt, (h.hr r m).2⟩, h.l1, h.l2, h.n5, kl h.h6, h.c1.kpN k (fun b m => (f b m).1), h.c2.kpN k (fun b m => (f b m).1), h.rf⟩
theorem copied_go {Q : VK} {E : XK} (h5 : H p5 = some (.lst [.ref T1, .ref T2])) (t1 : H T1 = some (.dK (rs1.map Row.kv))) (t2 : H T2 = some (.dK (rs2.map Row.kv))) (hr : ∀ r ∈ rs1 ++ rs2, (H r.adr = some (.lst r.xs) ∨ H r.adr = some (.tup r.xs)) ∧ r.xs.length ≤ 10) (l1 : rs1.length ≤ 10) (l2 : rs2.length ≤ 10)
    (q : ∀ H' l x y, Kp [] H H' → H' l = some (.lst [x, y]) → Cop K H' rs1 x → Cop K H' rs2 y → Q (.ref l) H') : sp_law_copied K [.ref p5] H Q E := by
  unfold sp_law_copied
  exact ⟨p5, T1, T2, rs1, rs2, rfl, h5, t1, t2, hr, l1, l2, q⟩
end
section
variable {K : PySem.W.Frag} {C : Addr} {D : Ends} {H : Hp} {Pt : Tb} {u0 u1 u2 u3 u4 u5 u6 u7 u8 u9 u10 : Option V} {a p dx D1 D2 E1 E2 p5 l6 T1 T2 : Addr} {root x y : V} {FK : List KRow} {CK : List CRow} {rank : Str → Nat} {N : Nat} {s : Srt} {k1 k2 : List (L2.Key × V)} {G0 G1 : Hp} {rs1 rs2 : List Row}
theorem law_4 {kept : List V} {Lk : Addr} (hL : H Lk = some (.lst kept)) (l7 : kept.length ≤ 100) (q : ∀ t, H t = none → D.nx [u0, some (.ref Lk), u2, u3, some (.ref p), u5, u6, u7, some (.ref a), u9, u10] (upd (upd H t (.tup [.ref a, .ref p])) Lk (.lst (kept ++ [.ref t])))) :
    b_law_4 K C Pt D [u0, some (.ref Lk), u2, u3, some (.ref p), u5, u6, u7, some (.ref a), u9, u10] H := by
  unfold b_law_4
  walk_at "go"
  exact q _ (by assumption)
theorem law_2 (r : Rg K H a p dx D1 D2 E1 E2 root FK CK rank N s k1 k2 G0 G1) (h : Hnd K H p5 l6 T1 T2 x y rs1 rs2) (tb : Tbl Pt H) (q : ∀ H', Kp [Pt.c] H H' → Tbl Pt H' → b_law_3 K C Pt D [u0, u1, u2, u3, some (.ref p), some (.ref p5), some (.ref l6), u7, some (.ref a), u9, u10] H') :
    b_law_2 K C Pt D [u0, u1, u2, u3, some (.ref p), some (.ref p5), some (.ref l6), u7, some (.ref a), u9, u10] H := by
  unfold b_law_2
  walk_at "go"
  refine copied_go h.h5 h.t1 h.t2 h.hr h.l1 h.l2 fun H2 l x' y' k2 hl c1 c2 => ?_
  have h2 := h.kp k2 fun b m => nomatch m
  walk_at "go"
  refine neX_go (n := 4) (by decide) (SqL.of hl) (SqL.of h2.h6) (.cons (cop_eq c1 h2.c1 fun r m => h.rf r (List.mem_append_left _ m)) (.cons (cop_eq c2 h2.c2 fun r m => h.rf r (List.mem_append_right _ m)) .nil)) ?_
  walk_at "go"
  refine right_go (r.kp k2 (fun b m => nomatch m) List.not_mem_nil List.not_mem_nil List.not_mem_nil List.not_mem_nil List.not_mem_nil (fun _ _ => List.not_mem_nil) fun _ _ => List.not_mem_nil) (tb.kp0 k2) fun H3 k3 tb3 => ?_
  walk_at "go"
  exact q _ ((k2.mono fun a m => nomatch m).trans k3) tb3
end
end K02

-- imports: K02S6 K02L0 K02L1 K02L2 K02L3 K02L4 K02L5 K02L6 K02L7 K02L8 K02L9 K02L10 K02L11 K02L12 K02L13
/-! ## k02: a schema made of what is handed in -/
namespace K02
open PySem PySem.Spec PyProof.Rows L2 Kb
open LamX (TabS)
/-- the same name, the same things -/
def Alk (a b : Row) : Prop := b.name = a.name ∧ b.xs = a.xs
theorem reK : ∀ {FK : List KRow} {rs : List Row}, Paired Alk (FK.map KRow.r) rs → ∃ FK' : List KRow, FK'.map KRow.r = rs ∧ FK'.map KRow.row = FK.map KRow.row ∧ FK'.map (·.name) = FK.map (·.name) ∧ ∀ k' ∈ FK', ∃ k ∈ FK, k'.name = k.name ∧ k'.fls = k.fls ∧ k'.xs = k.xs
  | [], _, .nil => ⟨[], rfl, rfl, rfl, fun k h => nomatch h⟩
  | k :: FK, b :: rs, .cons h t => by
    obtain ⟨FK', e1, e2, e3, e4⟩ := reK t
    obtain ⟨h1, h2⟩ := h
    obtain ⟨bn, ba, bx⟩ := b
    have h1 : bn = k.name := h1
    have h2 : bx = k.xs := h2
    subst h1 h2
    refine ⟨⟨k.name, ba, k.fls, k.xs⟩ :: FK', by rw [List.map_cons, e1]; rfl, by rw [List.map_cons, e2]; rfl, by rw [List.map_cons, e3]; rfl, fun k' m => ?_⟩
    rcases List.mem_cons.mp m with rfl | m
    · exact ⟨k, List.mem_cons_self, rfl, rfl, rfl⟩
    · obtain ⟨k2, m2, z⟩ := e4 k' m
      exact ⟨k2, List.mem_cons_of_mem _ m2, z⟩
theorem reC : ∀ {CK : List CRow} {rs : List Row}, Paired Alk (CK.map CRow.r) rs → ∃ CK' : List CRow, CK'.map CRow.r = rs ∧ CK'.map CRow.row = CK.map CRow.row ∧ CK'.map (·.name) = CK.map (·.name) ∧ ∀ k' ∈ CK', ∃ k ∈ CK, k'.name = k.name ∧ k'.cs = k.cs ∧ k'.xs = k.xs
  | [], _, .nil => ⟨[], rfl, rfl, rfl, fun k h => nomatch h⟩
  | k :: CK, b :: rs, .cons h t => by
    obtain ⟨CK', e1, e2, e3, e4⟩ := reC t
    obtain ⟨h1, h2⟩ := h
    obtain ⟨bn, ba, bx⟩ := b
    have h1 : bn = k.name := h1
    have h2 : bx = k.xs := h2
    subst h1 h2
    refine ⟨⟨k.name, ba, k.cs, k.xs⟩ :: CK', by rw [List.map_cons, e1]; rfl, by rw [List.map_cons, e2]; rfl, by rw [List.map_cons, e3]; rfl, fun k' m => ?_⟩
    rcases List.mem_cons.mp m with rfl | m
    · exact ⟨k, List.mem_cons_self, rfl, rfl, rfl⟩
    · obtain ⟨k2, m2, z⟩ := e4 k' m
      exact ⟨k2, List.mem_cons_of_mem _ m2, z⟩
theorem keyIn_names {FK FK' : List KRow} (e : FK'.map (·.name) = FK.map (·.name)) (z : Str) (h : keyIn (FK.map KRow.kv) z) : keyIn (FK'.map KRow.kv) z := by
  rw [key_mem, List.map_map] at h ⊢
  have f : ∀ L : List KRow, L.map ((fun x : L2.Key × V => x.1) ∘ KRow.kv) = (L.map (·.name)).map Sum.inr := fun L => by rw [List.map_map]; rfl
  rw [f] at h ⊢
  rw [e]
  exact h
theorem keyIn_namesC {FK FK' : List CRow} (e : FK'.map (·.name) = FK.map (·.name)) (z : Str) (h : keyIn (FK.map CRow.kv) z) : keyIn (FK'.map CRow.kv) z := by
  rw [key_mem, List.map_map] at h ⊢
  have f : ∀ L : List CRow, L.map ((fun x : L2.Key × V => x.1) ∘ CRow.kv) = (L.map (·.name)).map Sum.inr := fun L => by rw [List.map_map]; rfl
  rw [f] at h ⊢
  rw [e]
  exact h
section
variable {K : PySem.W.Frag} {C : Addr} {D : Ends} {H : Hp} {Pt : Tb} {p E1 E2 p5 l6 T1 T2 : Addr} {root x y : V} {FK : List KRow} {CK : List CRow} {rank : Str → Nat} {N : Nat} {s : Srt} {rs1 rs2 : List Row}
/-- the parts that the law drew -/
structure Prt (K : PySem.W.Frag) (H : Hp) (p E1 E2 : Addr) (root : V) (FK : List KRow) (CK : List CRow) (rank : Str → Nat) (N : Nat) (s : Srt) : Prop where
  hp : SqT K H p [.ref E1, .ref E2, root]
  e1 : H E1 = some (.dK (FK.map KRow.kv))
  e2 : H E2 = some (.dK (CK.map CRow.kv))
  g : Good K H FK CK rank N s root
  rF : ∀ r ∈ FK, H r.adr = some (.lst r.xs)
  rC : ∀ r ∈ CK, H r.adr = some (.lst r.xs)
theorem Prt.kp {H' : Hp} {M : List Addr} (h : Prt K H p E1 E2 root FK CK rank N s) (k : Kp M H H') (l : ∀ b ∈ M, NoT H b) (m1 : E1 ∉ M) (m2 : E2 ∉ M) (nF : ∀ r ∈ FK, r.adr ∉ M) (nC : ∀ r ∈ CK, r.adr ∉ M) : Prt K H' p E1 E2 root FK CK rank N s :=
  ⟨sqT_kpT k l h.hp, k.at_ m1 h.e1, k.at_ m2 h.e2, h.g.kpT k l (fun r m => ⟨h.rF r m, nF r m⟩) (fun r m => ⟨h.rC r m, nC r m⟩), fun r m => k.at_ (nF r m) (h.rF r m), fun r m => k.at_ (nC r m) (h.rC r m)⟩
theorem Prt.nix {H' : Hp} {M : List Addr} (h : Prt K H p E1 E2 root FK CK rank N s) (k : Kp M H H') (f : ∀ b ∈ M, Nix H b) : Prt K H' p E1 E2 root FK CK rank N s :=
  h.kp k (fun b m => noT_of (f b m).1) (fun m => (f _ m).2 _ h.e1) (fun m => (f _ m).2 _ h.e2) (fun r hr m => ((f _ m).1 _ (h.rF r hr)).2.2 _ rfl) (fun r hr m => ((f _ m).1 _ (h.rC r hr)).2.2 _ rfl)
theorem made_go {cv : V} {Q : VK} {E : XK} {z dx : Addr} (h : Hnd K H p5 l6 T1 T2 x y rs1 rs2) (t : Prt K H p E1 E2 root FK CK rank N s) (a1 : Paired Alk (FK.map KRow.r) rs1) (a2 : Paired Alk (CK.map CRow.r) rs2) (tb : Tbl Pt H) (hcv : (cv = .non ∧ CK = []) ∨ cv = .ref T2)
    (nx : H z = none) (nd : H dx = none) (ne : dx ≠ z)
    (q : ∀ H' D1 D2 k1 k2 G0, Kp [Pt.a, Pt.b] H H' → Tbl Pt H' → H D1 = none → H D2 = none → Rg K H' z p dx D1 D2 E1 E2 root FK CK rank N s k1 k2 G0 G0 → Q .non H') :
    sp_Schema___init__ K Pt [.ref z, .ref T1, cv, root] (upd (upd H dx (.own z)) z (.ins (cAt K "Schema") dx [])) Q E := by
  obtain ⟨FK', e1, e2, e3, e4⟩ := reK a1
  obtain ⟨CK', c1, c2, c3, c4⟩ := reC a2
  have km : Kp [] H (upd (upd H dx (.own z)) z (.ins (cAt K "Schema") dx [])) := (Kp.refl.upd_new nd).upd_new nx
  have hz : (upd (upd H dx (.own z)) z (.ins (cAt K "Schema") dx [])) z = some (.ins (cAt K "Schema") dx []) := upd_same
  generalize upd (upd H dx (.own z)) z (.ins (cAt K "Schema") dx []) = Hm at km hz ⊢
  have tm := t.nix km fun b m => nomatch m
  have hm := h.kp km fun b m => nomatch m
  have tbm := tb.kp0 km
  have g := tm.g
  have kvF : FK'.map KRow.kv = rs1.map Row.kv := by rw [← e1, List.map_map]; rfl
  have kvC : CK'.map CRow.kv = rs2.map Row.kv := by rw [← c1, List.map_map]; rfl
  have hcv2 : (cv = .non ∧ CK' = []) ∨ ∃ ca, cv = .ref ca ∧ Hm ca = some (.dK (CK'.map CRow.kv)) ∧ ca ≠ T1 := by
    rcases hcv with ⟨rfl, rfl⟩ | rfl
    · exact .inl ⟨rfl, List.map_eq_nil_iff.mp (show CK'.map (·.name) = [] from c3)⟩
    · exact .inr ⟨T2, rfl, by rw [kvC]; exact hm.t2, h.T12.symm⟩
  have lF : FK'.length ≤ 10 := by
    rw [← List.length_map (f := fun r : KRow => r.name), e3, List.length_map]
    exact g.lk
  have lC : CK'.length ≤ 10 := by
    rw [← List.length_map (f := fun r : CRow => r.name), c3, List.length_map]
    exact g.lc
  have kF := keyIn_names e3
  have kC := keyIn_namesC c3
  unfold sp_Schema___init__
  refine ⟨z, T1, cv, root, dx, s, FK', CK', rank, N, rfl, hz, by rw [kvF]; exact hm.t1, hcv2, by omega, by omega, by rw [e3]; exact g.nk, by rw [c3]; exact g.nc, fun r hr => ?_, fun r hr => ?_, g.N, g.srt, Srt.ok_mono kF kC g.sok, tbm, fun H' D1 D2 kvs1 kvs2 k tb' ha n1 n2 D12 h1 h2 d1 d2 => ?_⟩
  · obtain ⟨k, hk, f1, f2, f3⟩ := e4 r hr
    have o := g.okK k hk
    have m : r.r ∈ rs1 := by rw [← e1]; exact List.mem_map.mpr ⟨r, hr, rfl⟩
    refine ⟨by rw [f1]; exact o.name, (hm.hr _ (List.mem_append_left _ m)).1.imp id SqT.of, ?_⟩
    rw [f2, f3]
    exact o.row.mono kF kC
  · obtain ⟨k, hk, f1, f2, f3⟩ := c4 r hr
    have o := g.okC k hk
    have m : r.r ∈ rs2 := by rw [← c1]; exact List.mem_map.mpr ⟨r, hr, rfl⟩
    refine ⟨by rw [f1]; exact o.name, (hm.hr _ (List.mem_append_right _ m)).1.imp id SqT.of, ?_, ?_⟩
    · rw [f2, f3]
      exact o.row.mono kF kC
    · rw [f1, f2]
      exact o.up
  · have fm : ∀ b ∈ [z, Pt.a, Pt.b], Nix Hm b := fun b m => by
      rcases List.mem_cons.mp m with rfl | m
      · exact ⟨noSq_ins hz, fun kvs e => by rw [hz] at e; cases e⟩
      · rcases List.mem_cons.mp m with rfl | m
        · exact nix_tab tbm.a
        · rw [List.mem_singleton.mp m]
          exact nix_tab tbm.b
    rw [e2] at d1
    rw [c2] at d2
    have t' := tm.nix k fm
    exact q H' D1 D2 kvs1 kvs2 Hm ((km.mono fun a m => nomatch m).drop k fun a m => by
      rcases List.mem_cons.mp m with rfl | m
      · exact .inr nx
      · exact .inl m) tb' (km.none_of List.not_mem_nil n1) (km.none_of List.not_mem_nil n2) ⟨ha, h1, h2, d1, d2, t'.hp, t'.e1, t'.e2, t'.g, t'.rF, t'.rC⟩
theorem law_1 {lot : Int} {u0 u1 u2 u3 u8 u9 u10 : Option V} (h : Hnd K H p5 l6 T1 T2 x y rs1 rs2) (t : Prt K H p E1 E2 root FK CK rank N s) (a1 : Paired Alk (FK.map KRow.r) rs1) (a2 : Paired Alk (CK.map CRow.r) rs2) (tb : Tbl Pt H)
    (q : ∀ H' z dx D1 D2 k1 k2 G0, Kp [Pt.a, Pt.b] H H' → Tbl Pt H' → H z = none → H D1 = none → H D2 = none → Rg K H' z p dx D1 D2 E1 E2 root FK CK rank N s k1 k2 G0 G0 → b_law_2 K C Pt D [u0, u1, u2, u3, some (.ref p), some (.ref p5), some (.ref l6), some (.int lot), some (.ref z), u9, u10] H') :
    b_law_1 K C Pt D [u0, u1, u2, u3, some (.ref p), some (.ref p5), some (.ref l6), some (.int lot), u8, u9, u10] H := by
  unfold b_law_1
  have fin : ∀ Hx cv, Kp [] H Hx → ((cv = .non ∧ CK = []) ∨ cv = .ref T2) → ∀ z dx, Hx z = none → Hx dx = none → dx ≠ z → sp_Schema___init__ K Pt [.ref z, .ref T1, cv, root] (upd (upd Hx dx (.own z)) z (.ins (cAt K "Schema") dx [])) (fun v H3 => v = .non ∧ b_law_2 K C Pt D [u0, u1, u2, u3, some (.ref p), some (.ref p5), some (.ref l6), some (.int lot), some (.ref z), u9, u10] H3) E0 := fun Hx cv k hcv z dx nx nd ne =>
    made_go (h.kp k fun b m => nomatch m) (t.nix k fun b m => nomatch m) a1 a2 (tb.kp0 k) hcv nx nd ne fun H' D1 D2 k1 k2 G0 k' tb' n1 n2 r => ⟨rfl, q H' z dx D1 D2 k1 k2 G0 ((k.mono fun a m => nomatch m).trans k') tb' (k.none_of List.not_mem_nil nx) (k.none_of List.not_mem_nil n1) (k.none_of List.not_mem_nil n2) r⟩
  have hp := t.hp
  walk_at "go"
  rename_i q1 nq1
  have k1 : Kp [] H (upd H q1 (.dK [])) := Kp.refl.upd_new' nq1
  have hq1 : (upd H q1 (.dK [])) q1 = some (.dK []) := upd_same
  generalize upd H q1 (.dK []) = H1 at k1 hq1 ⊢
  have hp1 := k1.sqT List.not_mem_nil hp
  have h51 := k1.at_ List.not_mem_nil h.h5
  refine eqDE_go (k1.at_ List.not_mem_nil t.e2) hq1 ?_
  cases hc : (CK.map CRow.kv).isEmpty with
  | true =>
    have ce : CK = [] := List.map_eq_nil_iff.mp (List.isEmpty_iff.mp hc)
    walk_at "go"
    · exact fin H1 .non k1 (.inl ⟨rfl, ce⟩) _ _ (by assumption) (by assumption) (by assumption)
    · rename_i q2 nq2
      have k2 : Kp [] H (upd H1 q2 (.dK [])) := k1.upd_new' nq2
      have hq2 : (upd H1 q2 (.dK [])) q2 = some (.dK []) := upd_same
      generalize upd H1 q2 (.dK []) = H2 at k2 hq2 ⊢
      have hp2 := k2.sqT List.not_mem_nil hp
      have h52 := k2.at_ List.not_mem_nil h.h5
      refine eqDE_go (k2.at_ List.not_mem_nil t.e2) hq2 ?_
      rw [hc]
      walk_at "go"
      · exact fin H2 .non k2 (.inl ⟨rfl, ce⟩) _ _ (by assumption) (by assumption) (by assumption)
      · exact fin H2 (.ref T2) k2 (.inr rfl) _ _ (by assumption) (by assumption) (by assumption)
  | false =>
    walk_at "go"
    rename_i q2 nq2
    have k2 : Kp [] H (upd H1 q2 (.dK [])) := k1.upd_new' nq2
    have hq2 : (upd H1 q2 (.dK [])) q2 = some (.dK []) := upd_same
    generalize upd H1 q2 (.dK []) = H2 at k2 hq2 ⊢
    have hp2 := k2.sqT List.not_mem_nil hp
    have h52 := k2.at_ List.not_mem_nil h.h5
    refine eqDE_go (k2.at_ List.not_mem_nil t.e2) hq2 ?_
    rw [hc]
    walk_at "go"
    exact fin H2 (.ref T2) k2 (.inr rfl) _ _ (by assumption) (by assumption) (by assumption)
end
end K02

-- imports: K02S6 K02L0 K02L1 K02L2 K02L3 K02L4 K02L5 K02L6 K02L7 K02L8 K02L9 K02L10 K02L11 K02L12 K02L13 K02L14
/-! ## k02: the law -/
namespace K02
open PySem PySem.Spec PyProof.Rows L2 Kb
open LamX (TabS)
/-- a list of references is not the well -/
theorem Wel.notL {H : Hp} {S b : Addr} {n : Nat} {xs : List V} (w : Wel H S n) (h : H b = some (.lst xs)) (rf : ∀ v ∈ xs, ∃ a, v = .ref a) : b ∉ [S] := fun m => by
  rw [List.mem_singleton.mp m] at h
  obtain ⟨d, e, c, h2, _⟩ := w
  rw [h2] at h
  cases h
  obtain ⟨a, z⟩ := rf (.int d) List.mem_cons_self
  cases z
theorem Wel.notD {H : Hp} {S b : Addr} {n : Nat} {kvs : List (L2.Key × V)} (w : Wel H S n) (h : H b = some (.dK kvs)) : b ∉ [S] := fun m => by
  rw [List.mem_singleton.mp m] at h
  obtain ⟨d, e, c, h2, _⟩ := w
  rw [h2] at h
  cases h
section
variable {K : PySem.W.Frag} {H H' : Hp} {p5 l6 T1 T2 S p E1 E2 : Addr} {x y root : V} {rs1 rs2 : List Row} {n : Nat} {FK : List KRow} {CK : List CRow} {rank : Str → Nat} {N : Nat} {s : Srt}
theorem Cop.kpS {rs : List Row} (h : Cop K H rs x) (rf : ∀ r ∈ rs, ∀ v ∈ r.xs, ∃ a, v = .ref a) (k : Kp [S] H H') (w : Wel H S n) : Cop K H' rs x := by
  obtain ⟨l, xs, e, hl, p1⟩ := h
  refine ⟨l, xs, e, k.at_ (w.notL hl fun v m => ?_) hl, ?_⟩
  · obtain ⟨i, hi⟩ := List.getElem?_of_mem m
    obtain ⟨r, _, t, _, _, e, _⟩ := paired_at' p1 hi
    exact ⟨t, e⟩
  · have all : ∀ {rs : List Row} {xs : List V}, (∀ r ∈ rs, ∀ v ∈ r.xs, ∃ a, v = .ref a) → Paired (Cop1 K H) rs xs → Paired (Cop1 K H') rs xs := by
      intro rs xs rf pr
      induction pr with
      | nil => exact .nil
      | cons g _ ih =>
        refine .cons ?_ (ih fun r m => rf r (List.mem_cons_of_mem _ m))
        obtain ⟨t, c, b, e, ht, hc, b1, b2⟩ := g
        have rf0 := rf _ List.mem_cons_self
        exact ⟨t, c, b, e, sqT_kpT k w.noT ht, k.at_ (w.notL hc rf0) hc, fun z => k.at_ (w.notL (b1 z) rf0) (b1 z), fun z => k.at_ (fun m => (w.noT _ m _ (b2 z)).1 _ rfl) (b2 z)⟩
    exact all rf p1
theorem Hnd.kpS (h : Hnd K H p5 l6 T1 T2 x y rs1 rs2) (k : Kp [S] H H') (w : Wel H S n) (x1 : ∃ a, x = .ref a) (y1 : ∃ a, y = .ref a) : Hnd K H' p5 l6 T1 T2 x y rs1 rs2 :=
  ⟨k.at_ (w.notL h.h5 fun v m => by
    simp only [List.mem_cons, List.not_mem_nil, or_false] at m
    rcases m with rfl | rfl <;> exact ⟨_, rfl⟩) h.h5, k.at_ (w.notD h.t1) h.t1, k.at_ (w.notD h.t2) h.t2, h.T12, fun r m => ⟨(h.hr r m).1.imp (fun z => k.at_ (w.notL z (h.rf r m)) z) fun z => k.at_ (fun m2 => (w.noT _ m2 _ z).1 _ rfl) z, (h.hr r m).2⟩, h.l1, h.l2, h.n5, k.at_ (w.notL h.h6 fun v m => by
    simp only [List.mem_cons, List.not_mem_nil, or_false] at m
    rcases m with rfl | rfl <;> assumption) h.h6, h.c1.kpS (fun r m => h.rf r (List.mem_append_left _ m)) k w, h.c2.kpS (fun r m => h.rf r (List.mem_append_right _ m)) k w, h.rf⟩
theorem Prt.rf (t : Prt K H p E1 E2 root FK CK rank N s) : ∀ r ∈ FK, ∀ v ∈ r.xs, ∃ a, v = .ref a := fun r hr v hv => by
  obtain ⟨i, hi⟩ := List.getElem?_of_mem hv
  obtain ⟨f, _, fv⟩ := paired_at' (t.g.okK r hr).row.at_ hi
  obtain ⟨c, e, _⟩ := fv.at_
  exact ⟨c, e⟩
theorem Prt.rc (t : Prt K H p E1 E2 root FK CK rank N s) : ∀ r ∈ CK, ∀ v ∈ r.xs, ∃ a, v = .ref a := fun r hr v hv => by
  obtain ⟨i, hi⟩ := List.getElem?_of_mem hv
  obtain ⟨f, _, fv⟩ := paired_at' (t.g.okC r hr).row.at_ hi
  obtain ⟨c, e, _⟩ := fv.at_
  exact ⟨c, e⟩
theorem Prt.kpS (t : Prt K H p E1 E2 root FK CK rank N s) (k : Kp [S] H H') (w : Wel H S n) : Prt K H' p E1 E2 root FK CK rank N s :=
  t.kp k w.noT (w.notD t.e1) (w.notD t.e2) (fun r m => w.notL (t.rF r m) (t.rf r m)) fun r m => w.notL (t.rC r m) (t.rc r m)
theorem formed_go {Q : VK} {E : XK} {D : Addr} {rs : List Row} (w : Wel H S n) (hn : n ≤ 1000000) (hD : H D = some (.dK (rs.map Row.kv))) (nd : (rs.map (·.name)).Nodup) (l : rs.length ≤ 10) (hr : ∀ r ∈ rs, H r.adr = some (.lst r.xs) ∧ r.adr ≠ S ∧ r.xs.length ≤ 10)
    (q : ∀ H' D' rs', Kp [S] H H' → Wel H' S (n + 10) → H D' = none → H' D' = some (.dK (rs'.map Row.kv)) → Paired (Frm H H') rs rs' → Q (.ref D') H') : sp_law_formed K [.ref S, .ref D] H Q E := by
  unfold sp_law_formed
  exact ⟨S, D, n, rs, rfl, w, hn, hD, nd, l, hr, q⟩
end
section
variable {K : PySem.W.Frag} {C : Addr} {D : Ends} {H : Hp} {Pt : Tb} {p E1 E2 S : Addr} {root : V} {FK : List KRow} {CK : List CRow} {rank : Str → Nat} {N : Nat} {s : Srt} {n : Nat} {u0 u1 u2 u5 u6 u7 u8 u9 u10 : Option V}
theorem law_0 (w : Wel H S n) (hn : n ≤ 900000) (t : Prt K H p E1 E2 root FK CK rank N s) (tb : Tbl Pt H)
    (q : ∀ H' p5 l6 T1 T2 x y rs1 rs2 lot, Kp [S] H H' → Tbl Pt H' → Hnd K H' p5 l6 T1 T2 x y rs1 rs2 → Prt K H' p E1 E2 root FK CK rank N s → Paired Alk (FK.map KRow.r) rs1 → Paired Alk (CK.map CRow.r) rs2 → H T1 = none → H T2 = none → (∀ r ∈ rs1 ++ rs2, H r.adr = none) →
      b_law_1 K C Pt D [u0, u1, u2, some (.ref S), some (.ref p), some (.ref p5), some (.ref l6), some (.int lot), u8, u9, u10] H') :
    b_law_0 K C Pt D [u0, u1, u2, some (.ref S), some (.ref p), u5, u6, u7, u8, u9, u10] H := by
  have ns : ∀ {b : Addr}, b ∉ [S] → b ≠ S := fun n e => n (by rw [e]; exact List.mem_cons_self)
  have notS : ∀ {G : Hp} {a : Addr} {m : Nat}, Wel G S m → G a = none → a ∉ [S] := fun w n m => (w.ne n) (List.mem_singleton.mp m)
  have tabS : ∀ {G G' : Hp} {m : Nat}, Wel G S m → Kp [S] G G' → Tbl Pt G → Tbl Pt G' := fun {G G' m} w k tb => by
    obtain ⟨xs, hS⟩ := w.lst
    have nm : ∀ {P : Addr} {q : Str}, TabS G P q → P ∉ [S] := fun t m => tabS_ne t hS (fun ps e => by cases e) (List.mem_singleton.mp m).symm
    exact tb.kp k (nm tb.a) (nm tb.b) (nm tb.c) fun a m φ e => by
      rw [List.mem_singleton.mp m, hS] at e
      cases e
  unfold b_law_0
  have hp := t.hp
  walk_at "go"
  refine formed_go (rs := FK.map KRow.r) w (by omega) (by rw [List.map_map]; exact t.e1) (by rw [List.map_map]; exact t.g.nk) (by rw [List.length_map]; exact t.g.lk) (fun r hr => ?_) fun Ha T1 rs1 ka wa n1 h1 f1 => ?_
  · obtain ⟨x, hx, rfl⟩ := List.mem_map.mp hr
    exact ⟨t.rF x hx, ns (w.notL (t.rF x hx) (t.rf x hx)), t.g.lsK x hx⟩
  have ta := t.kpS ka w
  have tba := tabS w ka tb
  have hpa := ta.hp
  walk_at "go"
  refine formed_go (rs := CK.map CRow.r) wa (by omega) (by rw [List.map_map]; exact ta.e2) (by rw [List.map_map]; exact ta.g.nc) (by rw [List.length_map]; exact ta.g.lc) (fun r hr => ?_) fun Hb T2 rs2 kb wb n2 h2 f2 => ?_
  · obtain ⟨x, hx, rfl⟩ := List.mem_map.mp hr
    exact ⟨ta.rC x hx, ns (wa.notL (ta.rC x hx) (ta.rc x hx)), ta.g.lsC x hx⟩
  have tb' := ta.kpS kb wa
  have tbb := tabS wa kb tba
  have frm : ∀ {G G' : Hp} {L L' : List Row}, Paired (Frm G G') L L' → (∀ r ∈ L, r.xs.length ≤ 10 ∧ ∀ v ∈ r.xs, ∃ a, v = .ref a) → ∀ r ∈ L', (G' r.adr = some (.lst r.xs) ∨ G' r.adr = some (.tup r.xs)) ∧ r.xs.length ≤ 10 ∧ G r.adr = none ∧ ∀ v ∈ r.xs, ∃ a, v = .ref a := fun {G G' L L'} pr h r hr => by
    obtain ⟨i, hi⟩ := List.getElem?_of_mem hr
    obtain ⟨a, ea, f⟩ := paired_at' pr hi
    have m := h a (List.mem_of_getElem? ea)
    rw [f.2.1]
    exact ⟨f.2.2.2, m.1, f.2.2.1, m.2⟩
  have x1 := frm f1 fun r hr => by
    obtain ⟨x, hx, rfl⟩ := List.mem_map.mp hr
    exact ⟨t.g.lsK x hx, t.rf x hx⟩
  have x2 := frm f2 fun r hr => by
    obtain ⟨x, hx, rfl⟩ := List.mem_map.mp hr
    exact ⟨t.g.lsC x hx, t.rc x hx⟩
  have a1 : Paired Alk (FK.map KRow.r) rs1 := paired_imp (fun _ _ g => ⟨g.1, g.2.1⟩) f1
  have a2 : Paired Alk (CK.map CRow.r) rs2 := paired_imp (fun _ _ g => ⟨g.1, g.2.1⟩) f2
  have l1 : rs1.length ≤ 10 := by
    rw [← paired_len f1, List.length_map]
    exact t.g.lk
  have l2 : rs2.length ≤ 10 := by
    rw [← paired_len f2, List.length_map]
    exact t.g.lc
  have hrb : ∀ r ∈ rs1 ++ rs2, (Hb r.adr = some (.lst r.xs) ∨ Hb r.adr = some (.tup r.xs)) ∧ r.xs.length ≤ 10 := fun r hr => by
    rcases List.mem_append.mp hr with m | m
    · obtain ⟨b1, b2, b3, b4⟩ := x1 r m
      exact ⟨b1.imp (fun z => kb.at_ (wa.notL z b4) z) fun z => kb.at_ (fun m2 => (wa.noT _ m2 _ z).1 _ rfl) z, b2⟩
    · obtain ⟨b1, b2, b3, b4⟩ := x2 r m
      exact ⟨b1, b2⟩
  have rfb : ∀ r ∈ rs1 ++ rs2, ∀ v ∈ r.xs, ∃ a, v = .ref a := fun r hr => by
    rcases List.mem_append.mp hr with m | m
    · exact (x1 r m).2.2.2
    · exact (x2 r m).2.2.2
  have nwb : ∀ r ∈ rs1 ++ rs2, H r.adr = none := fun r hr => by
    rcases List.mem_append.mp hr with m | m
    · exact (x1 r m).2.2.1
    · exact ka.none_of (notS wa (x2 r m).2.2.1) (x2 r m).2.2.1
  have T12 : T1 ≠ T2 := ne_of_none h1 n2
  have h1b := kb.at_ (wa.notD h1) h1
  have n2H : H T2 = none := ka.none_of (notS wa n2) n2
  walk_at "go"
  rename_i p5 np5
  have k5 : Kp [] Hb (upd Hb p5 (.lst [.ref T1, .ref T2])) := Kp.refl.upd_new' np5
  have hp5 : (upd Hb p5 (.lst [.ref T1, .ref T2])) p5 = some (.lst [.ref T1, .ref T2]) := upd_same
  have wc : Wel (upd Hb p5 (.lst [.ref T1, .ref T2])) S (n + 10 + 10) := wb.new np5
  generalize upd Hb p5 (.lst [.ref T1, .ref T2]) = Hc at k5 hp5 wc ⊢
  have kn : ∀ {a : Addr} {o : HO}, Hb a = some o → Hc a = some o := fun h => k5.at_ List.not_mem_nil h
  have n5 : ∀ r ∈ rs1 ++ rs2, p5 ≠ r.adr := fun r hr => by
    rcases (hrb r hr).1 with z | z
    · exact (ne_of_none z np5).symm
    · exact (ne_of_none z np5).symm
  refine copied_go hp5 (kn h1b) (kn h2) (fun r m => ⟨(hrb r m).1.imp kn kn, (hrb r m).2⟩) l1 l2 fun Hd l6 x y kd h6 c1 c2 => ?_
  have kn2 : ∀ {a : Addr} {o : HO}, Hc a = some o → Hd a = some o := fun h => kd.at_ List.not_mem_nil h
  have wd := wc.kp kd List.not_mem_nil
  have hd : Hnd K Hd p5 l6 T1 T2 x y rs1 rs2 := ⟨kn2 hp5, kn2 (kn h1b), kn2 (kn h2), T12, fun r m => ⟨((hrb r m).1.imp kn kn).imp kn2 kn2, (hrb r m).2⟩, l1, l2, n5, h6, c1, c2, rfb⟩
  walk_at "go"
  show sp_law_draw K [.ref S, .int 3] Hd _ _
  have scd : SW Hd S (n + 10 + 10) Hd := ⟨Kp.refl, wd⟩
  refine draw_go scd (by omega) (by decide) (by decide) fun He lot sce ke _ _ => ?_
  walk_at "go"
  have kbd : Kp [] Hb Hd := k5.trans kd
  have td := tb'.nix kbd fun b m => nomatch m
  obtain ⟨lx, _, ex, _⟩ := c1
  obtain ⟨ly, _, ey, _⟩ := c2
  exact q He p5 l6 T1 T2 x y rs1 rs2 lot (ka.trans (kb.trans ((kbd.mono fun a m => nomatch m).trans ke))) (tabS wd ke (tbb.kp0 kbd)) (hd.kpS ke wd ⟨lx, ex⟩ ⟨ly, ey⟩) (td.kpS ke wd) a1 a2 n1 n2H nwb
end
end K02

-- imports: K02S6 K02L0 K02L1 K02L2 K02L3 K02L4 K02L5 K02L6 K02L7 K02L8 K02L9 K02L10 K02L11 K02L12 K02L13 K02L14 K02L15
/-! ## k02: the law as a whole -/
namespace K02
open PySem PySem.Spec PyProof.Rows L2 Kb
open LamX (TabS)
theorem chg_at {H : Hp} {T1 T2 b : Addr} {rs : List Row} {k1 k2 : List (L2.Key × V)} (t1 : H T1 = some (.dK k1)) (t2 : H T2 = some (.dK k2)) (m : b ∈ Chg H T1 T2 rs) : (b = T1 ∨ b = T2) ∨ ∃ xs, H b = some (.lst xs) ∧ ∃ r ∈ rs, r.adr = b := by
  rcases List.mem_cons.mp m with e | m
  · exact .inl (.inl e)
  · rcases List.mem_cons.mp m with e | m
    · exact .inl (.inr e)
    · obtain ⟨r, hr, rfl⟩ := List.mem_map.mp m
      obtain ⟨h1, h2⟩ := List.mem_filter.mp hr
      cases e : H r.adr with
      | none => rw [e] at h2; cases h2
      | some o =>
        rw [e] at h2
        cases o <;> first | exact .inr ⟨_, rfl, r, h1, rfl⟩ | cases h2
theorem len_law (K : PySem.W.Frag) (Pt : Tb) : ∀ vs H Q E, sp_law K Pt vs H Q E → vs.length = ["_law_script"].length := by
  intro _ _ _ _ h
  unfold sp_law at h
  obtain ⟨_, _, rfl, _⟩ := h
  rfl
theorem well_go {K : PySem.W.Frag} {H : Hp} {Q : VK} {E : XK} {i : Int} (q : ∀ p o, H p = none → Wel (upd H p o) p 0 → Q (.ref p) (upd H p o)) : sp_law_well K [.int i] H Q E := by
  unfold sp_law_well
  exact ⟨i, rfl, q⟩
theorem parts_go {K : PySem.W.Frag} {H : Hp} {Q : VK} {E : XK} {S : Addr} {n : Nat} (w : Wel H S n) (hn : n ≤ 100000)
    (q : ∀ H' p D1 D2 x FK CK rank N s, Kp [S] H H' → Wel H' S (n + 100000) → SqT K H' p [.ref D1, .ref D2, x] → H D1 = none → H D2 = none → D1 ≠ D2 → H' D1 = some (.dK (FK.map KRow.kv)) → H' D2 = some (.dK (CK.map CRow.kv)) → Good K H' FK CK rank N s x →
      (∀ r ∈ FK, H r.adr = none ∧ H' r.adr = some (.lst r.xs)) → (∀ r ∈ CK, H r.adr = none ∧ H' r.adr = some (.lst r.xs)) → Q (.ref p) H') : sp_law_parts K [.ref S] H Q E := by
  unfold sp_law_parts
  exact ⟨S, n, rfl, w, hn, q⟩
theorem Tbl.kpW {G G' : Hp} {S : Addr} {m : Nat} {Pt : Tb} (tb : Tbl Pt G) (k : Kp [S] G G') (w : Wel G S m) : Tbl Pt G' := by
  obtain ⟨xs, hS⟩ := w.lst
  have nm : ∀ {P : Addr} {q : Str}, TabS G P q → P ∉ [S] := fun t m => tabS_ne t hS (fun ps e => by cases e) (List.mem_singleton.mp m).symm
  exact tb.kp k (nm tb.a) (nm tb.b) (nm tb.c) fun a m φ e => by
    rw [List.mem_singleton.mp m, hS] at e
    cases e
section
variable {K : PySem.W.Frag} {C : Addr} {D : Ends} {H : Hp} {Pt : Tb} {Lk : Addr} {kept : List V} {u0 u3 u4 u5 u6 u7 u8 u9 u10 : Option V}
theorem law_turn {i : Int} (O : Own K C) (hL : H Lk = some (.lst kept)) (l7 : kept.length ≤ 90) (hk : ∀ v ∈ kept, Kept K Lk H v) (tb : Tbl Pt H)
    (q : ∀ H' v u3 u4 u5 u6 u7 u8 u9 u10, Kp [Lk, Pt.a, Pt.b, Pt.c] H H' → Tbl Pt H' → H' Lk = some (.lst (kept ++ [v])) → (∀ w ∈ kept ++ [v], Kept K Lk H' w) → D.nx [u0, some (.ref Lk), some (.int i), u3, u4, u5, u6, u7, u8, u9, u10] H') :
    (tSeq (tAsg (tCall (sp_law_well K) [] E0 (tCons (tVar 2) tNil)) (gName 3)) (tSeq (tAsg (tCall (sp_law_parts K) [] E0 (tCons (tVar 3) tNil)) (gName 4)) (b_law_0 K C Pt))) D [u0, some (.ref Lk), some (.int i), u3, u4, u5, u6, u7, u8, u9, u10] H := by
  walk_at "go"
  show sp_law_well K [.int i] H _ _
  refine well_go fun S o nS wS => ?_
  have kS : Kp [] H (upd H S o) := Kp.refl.upd_new' nS
  generalize upd H S o = H1 at kS wS ⊢
  have hL1 := kS.at_ List.not_mem_nil hL
  have tb1 := tb.kp0 kS
  walk_at "go"
  refine parts_go wS (by omega) fun H2 p E1 E2 root FK CK rank N s k2 w2 hp nE1 nE2 E12 e1 e2 g rF rC => ?_
  have notS : ∀ {a : Addr} {u : HO}, H a = some u → a ∉ [S] := fun h m => by
    rw [List.mem_singleton.mp m, nS] at h
    cases h
  have hL2 := k2.at_ (notS hL) hL1
  have tb2 := tb1.kpW k2 wS
  have k02 : Kp [] H H2 := kS.drop k2 fun a m => .inr (by rw [List.mem_singleton.mp m]; exact nS)
  have nF : ∀ r ∈ FK, r.adr ≠ Lk := fun r m e => by
    have h := (rF r m).1
    rw [e, hL1] at h
    cases h
  have nC : ∀ r ∈ CK, r.adr ≠ Lk := fun r m e => by
    have h := (rC r m).1
    rw [e, hL1] at h
    cases h
  have pt2 : Prt K H2 p E1 E2 root FK CK rank N s := ⟨hp, e1, e2, g, fun r m => (rF r m).2, fun r m => (rC r m).2⟩
  walk_at "go"
  refine law_0 w2 (by omega) pt2 tb2 fun H3 p5 l6 T1 T2 x y rs1 rs2 lot k3 tb3 hd3 pt3 a1 a2 n1 n2 nw => ?_
  have hL3 := k3.at_ (notS hL) hL2
  have k03 : Kp [] H H3 := k02.drop k3 fun a m => .inr (by rw [List.mem_singleton.mp m]; exact nS)
  refine law_1 hd3 pt3 a1 a2 tb3 fun H4 z dx D1 D2 q1 q2 G0 k4 tb4 nz nD1 nD2 r4 => ?_
  have fx : ∀ {G : Hp}, Tbl Pt G → ∀ b ∈ [Pt.a, Pt.b], Nix G b := fun tb b m => by
    rcases List.mem_cons.mp m with rfl | m
    · exact nix_tab tb.a
    · rw [List.mem_singleton.mp m]
      exact nix_tab tb.b
  have hd4 := hd3.kp k4 (fx tb3)
  have LkP : ∀ {G : Hp} {P : Addr} {q : Str} {xs : List V}, TabS G P q → G Lk = some (.lst xs) → Lk ≠ P := fun t h => tabS_ne t h fun ps e => by cases e
  have hL4 := k4.at_ (not2 (LkP tb3.a hL3) (LkP tb3.b hL3)) hL3
  refine law_2 r4 hd4 tb4 fun H5 k5 tb5 => ?_
  have hL5 := k5.at_ (fun m => LkP tb4.c hL4 (List.mem_singleton.mp m)) hL4
  have r5 := r4.fine (Lk := Lk) k5 (one (P := fun H b => Fine H Lk b) (fine_tab tb4.c)) nF nC
  have hd5 := hd4.kp k5 (one (P := Nix) (nix_tab tb4.c))
  refine law_3 hd5.h5 hd5.t1 hd5.t2 hd5.T12 hd5.hr hd5.l1 hd5.l2 hd5.n5 fun H6 u9 u10 k6 => ?_
  have at5 : ∀ {b : Addr}, b ∈ Chg H5 T1 T2 (rs1 ++ rs2) → (b = T1 ∨ b = T2) ∨ ∃ xs, H5 b = some (.lst xs) ∧ ∃ r ∈ rs1 ++ rs2, r.adr = b := fun m => chg_at hd5.t1 hd5.t2 m
  have dk5 : ∀ {b : Addr}, b = T1 ∨ b = T2 → ∃ kvs, H5 b = some (.dK kvs) := fun h => h.elim (fun e => ⟨rs1.map Row.kv, by rw [e]; exact hd5.t1⟩) fun e => ⟨rs2.map Row.kv, by rw [e]; exact hd5.t2⟩
  have new2 : ∀ {b : Addr}, b ∈ Chg H5 T1 T2 (rs1 ++ rs2) → H2 b = none := fun m => by
    rcases at5 m with (e | e) | ⟨_, _, r, hr, e⟩
    · rw [e]; exact n1
    · rw [e]; exact n2
    · rw [← e]; exact nw r hr
  have old2 : ∀ {b : Addr} {u : HO}, H2 b = some u → b ∉ Chg H5 T1 T2 (rs1 ++ rs2) := fun h m => by
    rw [new2 m] at h
    cases h
  have kind5 : ∀ {b : Addr} {u : HO}, H5 b = some u → (∀ kvs, u ≠ .dK kvs) → (∀ xs, u ≠ .lst xs) → b ∉ Chg H5 T1 T2 (rs1 ++ rs2) := fun h i1 i2 m => by
    rcases at5 m with e | ⟨xs, e, _⟩
    · obtain ⟨kvs, e⟩ := dk5 e
      rw [e] at h
      exact i1 _ (Option.some.inj h).symm
    · rw [e] at h
      exact i2 _ (Option.some.inj h).symm
  have l5 : ∀ b ∈ Chg H5 T1 T2 (rs1 ++ rs2), NoT H5 b := fun b m => by
    rcases at5 m with e | ⟨xs, e, _⟩
    · obtain ⟨kvs, e⟩ := dk5 e
      exact noT_of (noSq_dK (.inl e))
    · exact noT_lst e
  have newD : ∀ {D : Addr} {kvs : List (L2.Key × V)}, H3 D = none → H5 D = some (.dK kvs) → D ∉ Chg H5 T1 T2 (rs1 ++ rs2) := fun n h m => by
    rcases at5 m with (e | e) | ⟨xs, e, _⟩
    · rw [e, hd3.t1] at n
      cases n
    · rw [e, hd3.t2] at n
      cases n
    · rw [e] at h
      cases h
  have r6 := r5.kp k6 l5 (kind5 r5.ha (fun _ e => by cases e) fun _ e => by cases e) (newD nD1 r5.h1) (newD nD2 r5.h2) (old2 e1) (old2 e2) (fun r m => old2 (rF r m).2) fun r m => old2 (rC r m).2
  have hL6 := k6.at_ (old2 hL2) hL5
  have tabN : ∀ {P : Addr} {q : Str}, TabS H5 P q → P ∉ Chg H5 T1 T2 (rs1 ++ rs2) := fun t => by
    obtain ⟨ps, h, _⟩ := t
    exact kind5 h (fun _ e => by cases e) fun _ e => by cases e
  have tb6 : Tbl Pt H6 := tb5.kp k6 (tabN tb5.a) (tabN tb5.b) (tabN tb5.c) fun a m φ e => by
    rcases at5 m with z | ⟨xs, z, _⟩
    · obtain ⟨kvs, z⟩ := dk5 z
      rw [z] at e
      cases e
    · rw [z] at e
      cases e
  refine law_4 hL6 (by omega) fun t nt => ?_
  have tL : t ≠ Lk := (ne_of_none hL6 nt).symm
  have k67 : Kp [Lk] H6 (upd (upd H6 t (.tup [.ref z, .ref p])) Lk (.lst (kept ++ [.ref t]))) := (Kp.refl.upd_new' nt).upd_in List.mem_cons_self
  have r7 := r6.fine k67 (one (P := fun H b => Fine H Lk b) (fine_lst hL6)) nF nC
  have tb7 : Tbl Pt (upd (upd H6 t (.tup [.ref z, .ref p])) Lk (.lst (kept ++ [.ref t]))) := (tb6.kp0 (Kp.refl.upd_new' nt)).updM ((upd_ne tL.symm).trans hL6) (fun ps e => by cases e) (fun c z e => by cases e)
  have k05 : Kp [Lk, Pt.a, Pt.b, Pt.c] H H5 := ((k03.mono fun a m => nomatch m).trans (k4.mono fun a m => by
    rcases List.mem_cons.mp m with rfl | m
    · exact List.mem_cons_of_mem _ List.mem_cons_self
    · rw [List.mem_singleton.mp m]
      exact List.mem_cons_of_mem _ (List.mem_cons_of_mem _ List.mem_cons_self))).trans (k5.mono fun a m => by
    rw [List.mem_singleton.mp m]
    exact List.mem_cons_of_mem _ (List.mem_cons_of_mem _ (List.mem_cons_of_mem _ List.mem_cons_self)))
  have k06 := k05.drop k6 fun b m => .inr (k02.none_of List.not_mem_nil (new2 m))
  have k07 : Kp [Lk, Pt.a, Pt.b, Pt.c] H (upd (upd H6 t (.tup [.ref z, .ref p])) Lk (.lst (kept ++ [.ref t]))) := (k06.upd_new' nt).upd_in List.mem_cons_self
  have fine0 : ∀ b ∈ [Lk, Pt.a, Pt.b, Pt.c], Fine H Lk b := fun b m => by
    simp only [List.mem_cons, List.not_mem_nil, or_false] at m
    rcases m with rfl | rfl | rfl | rfl
    · exact fine_lst hL
    · exact fine_tab tb.a
    · exact fine_tab tb.b
    · exact fine_tab tb.c
  refine q _ (.ref t) _ _ _ _ _ _ _ _ k07 tb7 upd_same fun w m => ?_
  rcases List.mem_append.mp m with m | m
  · exact (hk w m).kp k07 fine0
  · rw [List.mem_singleton.mp m]
    exact ⟨t, z, p, dx, D1, D2, E1, E2, root, FK, CK, rank, N, s, q1, q2, G0, G0, rfl, SqT.of ((upd_ne tL).trans upd_same), r7, nF, nC⟩
end
theorem p_law (K : PySem.W.Frag) (C : Addr) (O : Own K C) (Pt : Tb) (vs : List V) (H : Hp) (Q : VK) (E : XK) (h : sp_law K Pt vs H Q E) : t_law K C Pt { nx := fun _ H' => Q .non H', rt := Q } (start ["_law_script", "_law_kept", "_law_cell", "_law_well_here", "_law_parts_here", "_law_handed", "_law_form", "_law_lot", "_law_schema", "_law_table", "_law_row"] vs) H := by
  unfold sp_law at h
  obtain ⟨a, ns, rfl, hs, l63, tb, q⟩ := h
  walk_at "go"
  rename_i Lk nL
  have k1 : Kp [] H (upd H Lk (.lst [])) := Kp.refl.upd_new' nL
  have hL : (upd H Lk (.lst [])) Lk = some (.lst []) := upd_same
  have tb1 := tb.kp0 k1
  have hs1 := k1.sqL List.not_mem_nil hs
  generalize upd H Lk (.lst []) = H1 at k1 hL tb1 hs1 ⊢
  refine slL_go hs1 fun p2 np2 => ?_
  have cm : ∀ v ∈ cutV (ns.map V.int) none (some 5), ∃ i, v = V.int i := fun v m => by
    unfold cutV at m
    obtain ⟨i, _, e⟩ := List.mem_map.mp (List.mem_of_mem_drop (List.mem_of_mem_take m))
    exact ⟨i, e.symm⟩
  have cl : (cutV (ns.map V.int) none (some 5)).length ≤ 63 := Nat.le_trans (cutV_length _ _ _) (by rw [List.length_map]; exact l63)
  generalize cutV (ns.map V.int) none (some 5) = L at cm cl ⊢
  walk_at "go"
  rename_i p3 np3 p4 np4
  have k4 : Kp [] H1 (upd (upd (upd H1 p2 (.lst L)) p3 (.lst [.int 4, .int 11])) p4 (.lst (L ++ [.int 4, .int 11]))) := ((Kp.refl.upd_new' np2).upd_new' np3).upd_new' np4
  have h4 : (upd (upd (upd H1 p2 (.lst L)) p3 (.lst [.int 4, .int 11])) p4 (.lst (L ++ [.int 4, .int 11]))) p4 = some (.lst (L ++ [.int 4, .int 11])) := upd_same
  have p4L : Lk ≠ p4 := ne_of_none ((Kp.refl (M := []).upd_new' np3).at_ List.not_mem_nil ((Kp.refl (M := []).upd_new' np2).at_ List.not_mem_nil hL)) np4
  generalize upd (upd (upd H1 p2 (.lst L)) p3 (.lst [.int 4, .int 11])) p4 (.lst (L ++ [.int 4, .int 11])) = H4 at k4 h4 ⊢
  have hL4 := k4.at_ List.not_mem_nil hL
  have tb4 := tb1.kp0 k4
  have pP : ∀ {P : Addr} {q : Str}, TabS H4 P q → p4 ≠ P := fun t => tabS_ne t h4 fun ps e => by cases e
  have nm4 : p4 ∉ [Lk, Pt.a, Pt.b, Pt.c] := fun m => by
    simp only [List.mem_cons, List.not_mem_nil, or_false] at m
    rcases m with e | e | e | e
    · exact p4L e.symm
    · exact pP tb4.a e
    · exact pP tb4.b e
    · exact pP tb4.c e
  have im : ∀ v ∈ L ++ [V.int 4, V.int 11], ∃ i, v = V.int i := fun v m => by
    rcases List.mem_append.mp m with m | m
    · exact cm v m
    · simp only [List.mem_cons, List.not_mem_nil, or_false] at m
      rcases m with rfl | rfl <;> exact ⟨_, rfl⟩
  refine ⟨⟨_, SqL.of h4⟩, ?_⟩
  refine for_it (walk_list (xs := L ++ [.int 4, .int 11])) (fun i σ H' => ∃ kept u2 u3 u4 u5 u6 u7 u8 u9 u10, σ = [some (.ref a), some (.ref Lk), u2, u3, u4, u5, u6, u7, u8, u9, u10] ∧ Kp [Lk, Pt.a, Pt.b, Pt.c] H4 H' ∧ Tbl Pt H' ∧ H' Lk = some (.lst kept) ∧ kept.length = i ∧ ∀ v ∈ kept, Kept K Lk H' v)
    ⟨[], _, _, _, _, _, _, _, _, _, rfl, Kp.refl, tb4, hL4, rfl, fun v m => nomatch m⟩ (fun i σ H' _ ⟨_, _, _, _, _, _, _, _, _, _, _, k, _⟩ => SqL.of (k.at_ nm4 h4)) ?_ (fun σ H' h => ?_)
  · rintro i x σ Ha Hb hi ⟨kept, u2, u3, u4, u5, u6, u7, u8, u9, u10, rfl, ka, tba, hk, lk, ok⟩ ⟨rfl, ex⟩
    obtain ⟨c, rfl⟩ := im x (List.mem_of_getElem? ex)
    have hi65 : i < 65 := by
      rw [List.length_append] at hi
      have : [V.int 4, V.int 11].length = 2 := rfl
      omega
    refine law_turn O hk (by omega) ok tba fun H' v u3 u4 u5 u6 u7 u8 u9 u10 k' tb' hk' ok' => ?_
    exact ⟨kept ++ [v], _, _, _, _, _, _, _, _, _, rfl, ka.trans k', tb', hk', by rw [List.length_append, lk]; rfl, ok'⟩
  · obtain ⟨kept, u2, u3, u4, u5, u6, u7, u8, u9, u10, rfl, ka, tba, hk, lk, ok⟩ := h
    refine law_5 hk ?_ ok tba fun H2 => q H2
    rw [lk, List.length_append]
    have : [V.int 4, V.int 11].length = 2 := rfl
    omega
theorem tab0 {H : Hp} {P : Addr} {q : Str} (h : H P = some (.tbl #[])) : TabS H P q := ⟨#[], h, trivial, fun pos cv e => by cases e⟩
theorem law_end (K : PySem.W.Frag) (Pt : Tb) (H : Hp) (a : Addr) (ns : List Int) (hl : ns.length ≤ 63) (ha : H Pt.a = some (.tbl #[])) (hb : H Pt.b = some (.tbl #[])) (hc : H Pt.c = some (.tbl #[])) (ab : Pt.a ≠ Pt.b) (ac : Pt.a ≠ Pt.c) (bc : Pt.b ≠ Pt.c) (hS : SqL K H a (ns.map V.int)) : sp_law K Pt [.ref a] H (fun v _ => v = .bl true) fun _ _ _ => False :=
  ⟨a, ns, rfl, hS, hl, ⟨tab0 ha, tab0 hb, tab0 hc, ab, ac, bc⟩, fun _ => rfl⟩
end K02

namespace K02
open PySem PySem.Spec PyProof.Rows L2 Kb
def topS (i : Nat) : Stmt := PySem.Challenge.pw_thingwires_k02_schemas_made.main.body.getD i (.Pass ⟨0, 0, 0, 0⟩)
abbrev s_is_whole : Stmt := topS 6
abbrev s_is_within : Stmt := topS 7
abbrev s_is_row : Stmt := topS 8
abbrev s_left_of : Stmt := topS 9
abbrev s_is_name : Stmt := topS 17
abbrev s_is_bounds : Stmt := topS 18
abbrev s_is_known : Stmt := topS 19
abbrev s_is_sort : Stmt := topS 20
abbrev s_is_default : Stmt := topS 21
abbrev s_refuse_if : Stmt := topS 22
abbrev s_look_at_heading : Stmt := topS 23
abbrev s_look_at_part : Stmt := topS 24
abbrev s_Schema_take_kind : Stmt := inClass (topS 25) 1
abbrev s_Schema_take_choice : Stmt := inClass (topS 25) 2
abbrev s_Schema_comes_back : Stmt := inClass (topS 25) 3
abbrev s_Schema___init__ : Stmt := inClass (topS 25) 0
abbrev s_law_well : Stmt := topS 27
abbrev s_law_draw : Stmt := topS 28
abbrev s_law_names : Stmt := topS 29
abbrev s_law_number : Stmt := topS 30
abbrev s_law_sort : Stmt := topS 31
abbrev s_law_left : Stmt := topS 32
abbrev s_law_fields : Stmt := topS 33
abbrev s_law_cases : Stmt := topS 34
abbrev s_law_parts : Stmt := topS 35
abbrev s_law_formed : Stmt := topS 36
abbrev s_law_copied : Stmt := topS 37
abbrev s_law_sorted : Stmt := topS 38
abbrev s_law_right : Stmt := topS 39
abbrev s_law : Stmt := topS 40
structure Txt (K : PySem.W.Frag) (mg : Str → Option Value) (C : Addr) : Prop where
  m_abs : mg "abs" = none
  m_all : mg "all" = none
  m_bool : mg "bool" = none
  m_dict : mg "dict" = none
  m_enumerate : mg "enumerate" = none
  m_int : mg "int" = none
  m_isinstance : mg "isinstance" = none
  m_len : mg "len" = none
  m_list : mg "list" = none
  m_min : mg "min" = none
  m_range : mg "range" = none
  m_sorted : mg "sorted" = none
  m_str : mg "str" = none
  m_tuple : mg "tuple" = none
  c_GREATEST : ∃ t, mg "GREATEST" = some (.int 999999999999999999999999999999999999999999999999999999999999 t)
  c_LETTERS : ∃ t, mg "LETTERS" = some (.str (PySem.Str.ofString "abcdefghijklmnopqrstuvwxyz") t)
  c_MOST_SIGNS : ∃ t, mg "MOST_SIGNS" = some (.int 8 t)
  c_MOST_NUMBER : ∃ t, mg "MOST_NUMBER" = some (.int 99 t)
  c_MOST_TEXT : ∃ t, mg "MOST_TEXT" = some (.int 40 t)
  c_MOST_ROW : ∃ t, mg "MOST_ROW" = some (.int 20 t)
  c_MOST_DEEP : ∃ t, mg "MOST_DEEP" = some (.int 3 t)
  own : Own K C
  g_Schema : mg "Schema" = some (.ref (cAt K "Schema"))
  mk_Schema : PySem.W.makesIn K (cAt K "Schema") = true
  kc_Schema : PySem.W.keepIn K (.ref (cAt K "Schema")) = true
  d_is_whole : Def K mg s_is_whole "is_whole"
  d_is_within : Def K mg s_is_within "is_within"
  d_is_row : Def K mg s_is_row "is_row"
  d_left_of : Def K mg s_left_of "left_of"
  d_is_name : Def K mg s_is_name "is_name"
  d_is_bounds : Def K mg s_is_bounds "is_bounds"
  d_is_known : Def K mg s_is_known "is_known"
  d_is_sort : DefF K mg s_is_sort "is_sort" [.int 0]
  d_is_default : Def K mg s_is_default "is_default"
  d_refuse_if : Def K mg s_refuse_if "refuse_if"
  d_look_at_heading : Def K mg s_look_at_heading "look_at_heading"
  d_look_at_part : Def K mg s_look_at_part "look_at_part"
  d_Schema_comes_back : DefM K (cAt K "Schema") s_Schema_comes_back "comes_back" "Schema.comes_back"
  d_Schema___init__ : DefK K (cAt K "Schema") s_Schema___init__ "Schema.__init__" [("choices", .non)]
  d_law_well : Def K mg s_law_well "_law_well"
  d_law_draw : Def K mg s_law_draw "_law_draw"
  d_law_names : Def K mg s_law_names "_law_names"
  d_law_number : Def K mg s_law_number "_law_number"
  d_law_sort : Def K mg s_law_sort "_law_sort"
  d_law_left : Def K mg s_law_left "_law_left"
  d_law_fields : Def K mg s_law_fields "_law_fields"
  d_law_cases : Def K mg s_law_cases "_law_cases"
  d_law_parts : Def K mg s_law_parts "_law_parts"
  d_law_formed : Def K mg s_law_formed "_law_formed"
  d_law_copied : Def K mg s_law_copied "_law_copied"
  d_law_right : Def K mg s_law_right "_law_right"
  d_law : Def K mg s_law "law"
structure Tbs (K : PySem.W.Frag) (mg : Str → Option Value) (base : Heap) (Pt : Tb) : Prop where
  e_Schema_take_kind : ∃ c, DefMC K (cAt K "Schema") s_Schema_take_kind "take_kind" "Schema.take_kind" c ∧ LamX.TabB base mg c Pt.a
  e_Schema_take_choice : ∃ c, DefMC K (cAt K "Schema") s_Schema_take_choice "take_choice" "Schema.take_choice" c ∧ LamX.TabB base mg c Pt.b
  e_law_sorted : ∃ c, DefC K mg s_law_sorted "_law_sorted" c ∧ LamX.TabB base mg c Pt.c
theorem sc_is_whole : FnScope ["thing"] ["thing"] (defScope s_is_whole) := ⟨rfl, rfl, rfl, by decide +kernel, rfl, by decide +kernel, by decide +kernel⟩
theorem ok_is_whole {P : Program} {w : World} {K : PySem.W.Frag} {mg : Str → Option Value} {base : Heap} {C : Addr} (T : Txt K mg C) : Cal P w K mg base CX0 1 "is_whole" ["thing"] (sp_is_whole K) := by
  refine Cal.of (st := s_is_whole) T.d_is_whole sc_is_whole (fun _ _ _ _ _ _ us hl => match us, hl with | [_], _ => rfl) (len_is_whole K) fun f cdv A outer s H vs Q E hr h => ⟨t_is_whole K, ?_, p_is_whole K vs H Q E h⟩
  exact (pss_one (ps_ret (pe_and (pe_callB u_isi (by rfl) T.m_isinstance (by decide +kernel) (pa_cons (pv 0) (pa_cons (pe_bltn (v := .ty "int") (by rfl) T.m_int (by decide +kernel) rfl) pa_nil))) (pe_one (pe_not (pe_callB u_isi (by rfl) T.m_isinstance (by decide +kernel) (pa_cons (pv 0) (pa_cons (pe_bltn (v := .ty "bool") (by rfl) T.m_bool (by decide +kernel) rfl) pa_nil))))))))

theorem sc_is_within : FnScope ["thing", "low", "high"] ["thing", "low", "high"] (defScope s_is_within) := ⟨rfl, rfl, rfl, by decide +kernel, rfl, by decide +kernel, by decide +kernel⟩
theorem ok_is_within {P : Program} {w : World} {K : PySem.W.Frag} {mg : Str → Option Value} {base : Heap} {C : Addr} (T : Txt K mg C) : Cal P w K mg base CX0 2 "is_within" ["thing", "low", "high"] (sp_is_within K) := by
  refine Cal.of (st := s_is_within) T.d_is_within sc_is_within (fun _ _ _ _ _ _ us hl => match us, hl with | [_, _, _], _ => rfl) (len_is_within K) fun f cdv A outer s H vs Q E hr h => ⟨t_is_within K, ?_, p_is_within K vs H Q E h⟩
  exact (pss_cons (ps_if (PW.pt (pw_or (pt_not (pt_truth (pe_callC (ok_is_whole T) (hr.mono (by omega)) (by rfl) pass0 (pa_cons (pv 0) pa_nil)) (by intro _; rfl))) (pw_or1 (PW.pt (pw_and (pt_cmpR u_notN (pv 1) pe_non (nomark _)) (pw_and1 (pt_cmpR u_lt (pv 0) (pv 1) (nomark _))))))))
 (pss_one (ps_ret pe_bl))
 pss_nil)
 (pss_one (ps_ret (pe_or (pe_cmpR u_isN (pv 2) pe_non (nomark _)) (pe_one (pe_cmpR u_le (pv 0) (pv 2) (nomark _)))))))

theorem sc_is_row : FnScope ["thing"] ["thing"] (defScope s_is_row) := ⟨rfl, rfl, rfl, by decide +kernel, rfl, by decide +kernel, by decide +kernel⟩
theorem ok_is_row {P : Program} {w : World} {K : PySem.W.Frag} {mg : Str → Option Value} {base : Heap} {C : Addr} (T : Txt K mg C) : Cal P w K mg base CX0 1 "is_row" ["thing"] (sp_is_row K) := by
  refine Cal.of (st := s_is_row) T.d_is_row sc_is_row (fun _ _ _ _ _ _ us hl => match us, hl with | [_], _ => rfl) (len_is_row K) fun f cdv A outer s H vs Q E hr h => ⟨t_is_row K, ?_, p_is_row K vs H Q E h⟩
  exact (pss_one (ps_ret (pe_callB u_isi (by rfl) T.m_isinstance (by decide +kernel) (pa_cons (pv 0) (pa_cons (pe_tup (pa_cons (pe_bltn (v := .ty "list") (by rfl) T.m_list (by decide +kernel) rfl) (pa_cons (pe_bltn (v := .ty "tuple") (by rfl) T.m_tuple (by decide +kernel) rfl) pa_nil))) pa_nil)))))

theorem sc_left_of : FnScope ["field"] ["field"] (defScope s_left_of) := ⟨rfl, rfl, rfl, by decide +kernel, rfl, by decide +kernel, by decide +kernel⟩
theorem ok_left_of {P : Program} {w : World} {K : PySem.W.Frag} {mg : Str → Option Value} {base : Heap} {C : Addr} (T : Txt K mg C) : Cal P w K mg base CX0 1 "left_of" ["field"] (sp_left_of K) := by
  refine Cal.of (st := s_left_of) T.d_left_of sc_left_of (fun _ _ _ _ _ _ us hl => match us, hl with | [_], _ => rfl) (len_left_of K) fun f cdv A outer s H vs Q E hr h => ⟨t_left_of K, ?_, p_left_of K vs H Q E h⟩
  exact (pss_one (ps_ret (pe_slice sl_tupA (pv 0) (po_some pe_int) po_none)))

theorem sc_is_name : FnScope ["thing", "sign"] ["thing"] (defScope s_is_name) := ⟨rfl, rfl, rfl, by decide +kernel, rfl, by decide +kernel, by decide +kernel⟩
theorem ok_is_name {P : Program} {w : World} {K : PySem.W.Frag} {mg : Str → Option Value} {base : Heap} {C : Addr} (T : Txt K mg C) : Cal P w K mg base CX0 1 "is_name" ["thing"] (sp_is_name K) := by
  refine Cal.of (st := s_is_name) T.d_is_name sc_is_name (fun _ _ _ _ _ _ us hl => match us, hl with | [_], _ => rfl) (len_is_name K) fun f cdv A outer s H vs Q E hr h => ⟨t_is_name K, ?_, p_is_name K vs H Q E h⟩
  exact (pss_cons (ps_if (PW.pt (pw_or (pt_not (pt_truth (pe_callB u_isi (by rfl) T.m_isinstance (by decide +kernel) (pa_cons (pv 0) (pa_cons (pe_bltn (v := .ty "str") (by rfl) T.m_str (by decide +kernel) rfl) pa_nil))) (by intro _; rfl))) (pw_or1 (pt_not (pt_chain u_le u_le pe_int (pe_callB u_len (by rfl) T.m_len PySem.boot_len (pa_cons (pv 0) pa_nil)) (pe_gint (by rfl) T.c_MOST_SIGNS))))))
 (pss_one (ps_ret pe_bl))
 pss_nil)
 (pss_one (ps_ret (pe_callB (u_all rfl) (by rfl) T.m_all (by decide +kernel) (pa_cons (pe_lc (own := [("sign", 1)]) (g := (gName 1)) (tt := tYes) rfl sc_is_name.nd (pi_str (pv 0)) (blkOk_by (N := ["thing", "sign"]) (sc := (defScope s_is_name)) (own := [("sign", 1)]) (by decide +kernel)) (fun _ _ _ _ _ => (pg_name (i := 1) sc_is_name.nd rfl (by first | exact Or.inl rfl | exact Or.inr rfl))) (fun _ _ _ _ _ => pts_nil) (fun _ _ _ _ _ => (pe_cmpR u_in (pv 1) (pe_gstr (by rfl) T.c_LETTERS) (by rfl)))) pa_nil)))))

theorem sc_is_bounds : FnScope ["low", "high", "one"] ["low", "high"] (defScope s_is_bounds) := ⟨rfl, rfl, rfl, by decide +kernel, rfl, by decide +kernel, by decide +kernel⟩
theorem ok_is_bounds {P : Program} {w : World} {K : PySem.W.Frag} {mg : Str → Option Value} {base : Heap} {C : Addr} (T : Txt K mg C) : Cal P w K mg base CX0 2 "is_bounds" ["low", "high"] (sp_is_bounds K) := by
  refine Cal.of (st := s_is_bounds) T.d_is_bounds sc_is_bounds (fun _ _ _ _ _ _ us hl => match us, hl with | [_, _], _ => rfl) (len_is_bounds K) fun f cdv A outer s H vs Q E hr h => ⟨t_is_bounds K, ?_, p_is_bounds K vs H Q E h⟩
  exact (pss_cons (ps_if (pt_not (pt_truth (pe_callB (u_all rfl) (by rfl) T.m_all (by decide +kernel) (pa_cons (pe_lc (own := [("one", 2)]) (g := (gName 2)) (tt := tYes) rfl sc_is_bounds.nd (pi_tup (pe_tup (pa_cons (pv 0) (pa_cons (pv 1) pa_nil)))) (blkOk_by (N := ["low", "high", "one"]) (sc := (defScope s_is_bounds)) (own := [("one", 2)]) (by decide +kernel)) (fun _ _ _ _ _ => (pg_name (i := 2) sc_is_bounds.nd rfl (by first | exact Or.inl rfl | exact Or.inr rfl))) (fun _ _ _ _ _ => pts_nil) (fun _ _ _ _ _ => (pe_or (pe_cmpR u_isN (pv 2) pe_non (nomark _)) (pe_one (pe_callC (ok_is_whole T) (hr.mono (by omega)) (by rfl) pass0 (pa_cons (pv 2) pa_nil)))))) pa_nil)) (by intro _; rfl)))
 (pss_one (ps_ret pe_bl))
 pss_nil)
 (pss_one (ps_ret (pe_or (pe_cmpR u_isN (pv 0) pe_non (nomark _)) (pe_or (pe_cmpR u_isN (pv 1) pe_non (nomark _)) (pe_one (pe_cmpR u_le (pv 0) (pv 1) (nomark _))))))))

theorem sc_is_known : FnScope ["names", "thing"] ["names", "thing"] (defScope s_is_known) := ⟨rfl, rfl, rfl, by decide +kernel, rfl, by decide +kernel, by decide +kernel⟩
theorem ok_is_known {P : Program} {w : World} {K : PySem.W.Frag} {mg : Str → Option Value} {base : Heap} {C : Addr} (T : Txt K mg C) : Cal P w K mg base CX0 1 "is_known" ["names", "thing"] (sp_is_known K) := by
  refine Cal.of (st := s_is_known) T.d_is_known sc_is_known (fun _ _ _ _ _ _ us hl => match us, hl with | [_, _], _ => rfl) (len_is_known K) fun f cdv A outer s H vs Q E hr h => ⟨t_is_known K, ?_, p_is_known K vs H Q E h⟩
  exact (pss_one (ps_ret (pe_and (pe_callB u_isi (by rfl) T.m_isinstance (by decide +kernel) (pa_cons (pv 1) (pa_cons (pe_bltn (v := .ty "str") (by rfl) T.m_str (by decide +kernel) rfl) pa_nil))) (pe_one (pe_cmp (pc_din (hu_of hr) (pv 1) (pv 0)))))))

theorem sc_is_sort : FnScope ["kinds", "choices", "thing", "deep", "word", "rest"] ["kinds", "choices", "thing", "deep"] (defScope s_is_sort) := ⟨rfl, rfl, rfl, by decide +kernel, rfl, by decide +kernel, by decide +kernel⟩
theorem ok_is_sort {P : Program} {w : World} {K : PySem.W.Frag} {mg : Str → Option Value} {base : Heap} {C : Addr} (T : Txt K mg C) : ∀ n : Nat, CalDf P w K mg base CX0 (3 + n) s_is_sort "is_sort" [.int 0] ["kinds", "choices", "thing", "deep"] (sp_is_sort K n)
  | 0 => CalDf.of (k := 2) T.d_is_sort sc_is_sort (fun vs H Q E h => (no_is_sort K h).elim) fun f cdv A outer s H vs Q E hr h => (no_is_sort K h).elim
  | n + 1 => by
    have ih := ok_is_sort (P := P) (w := w) (base := base) T n
    refine CalDf.of (k := 3 + n) T.d_is_sort sc_is_sort (len_is_sort K n) fun f cdv A outer s H vs Q E hr h => ⟨t_is_sort K n, ?_, p_is_sort K n vs H Q E h⟩
    unfold t_is_sort b_is_sort_0
    exact (pss_cons (ps_if (PW.pt (pw_or (pt_cmpR u_gt (pv 3) (pe_gint (by rfl) T.c_MOST_DEEP) (nomark _)) (pw_or (pt_not (pt_truth (pe_callB u_isi (by rfl) T.m_isinstance (by decide +kernel) (pa_cons (pv 2) (pa_cons (pe_bltn (v := .ty "tuple") (by rfl) T.m_tuple (by decide +kernel) rfl) pa_nil))) (by intro _; rfl))) (pw_or (pt_cmpR (u_eqX hr.units) (pv 2) (pe_tup pa_nil) (nomark _)) (pw_or1 (pt_not (pt_truth (pe_callB u_isi (by rfl) T.m_isinstance (by decide +kernel) (pa_cons (pe_ix u_ix (pv 2) pe_int (fun _ _ => rfl)) (pa_cons (pe_bltn (v := .ty "str") (by rfl) T.m_str (by decide +kernel) rfl) pa_nil))) (by intro _; rfl))))))))
 (pss_one (ps_ret pe_bl))
 pss_nil)
 (pss_cons (ps_asg (pv 2) (pg_star (by rfl) (pgs_cons (pg_name (i := 4) sc_is_sort.nd rfl (by first | exact Or.inl rfl | exact Or.inr rfl)) (pgs_star (pg_name (i := 5) sc_is_sort.nd rfl (by first | exact Or.inl rfl | exact Or.inr rfl))))))
 (pss_cons (ps_if (pt_cmpR (u_eq hr.units) (pv 4) pe_str (nomark _))
 (pss_one (ps_ret (pe_cmpR (u_eqX hr.units) (pv 5) (pe_lst pa_nil) (nomark _))))
 pss_nil)
 (pss_cons (ps_if (pt_cmpR (u_eq hr.units) (pv 4) pe_str (nomark _))
 (pss_one (ps_ret (pe_and (pe_cmpR (u_eq hr.units) (pe_callB u_len (by rfl) T.m_len PySem.boot_len (pa_cons (pv 5) pa_nil)) pe_int (nomark _)) (pe_one (pe_callC (ok_is_bounds T) (hr.mono (by omega)) (by rfl) pass0 (pa_cons (pe_ix u_ix (pv 5) pe_int (fun _ _ => rfl)) (pa_cons (pe_ix u_ix (pv 5) pe_int (fun _ _ => rfl)) pa_nil)))))))
 pss_nil)
 (pss_cons (ps_if (pt_cmpR (u_eq hr.units) (pv 4) pe_str (nomark _))
 (pss_one (ps_ret (pe_and (pe_cmpR (u_eq hr.units) (pe_callB u_len (by rfl) T.m_len PySem.boot_len (pa_cons (pv 5) pa_nil)) pe_int (nomark _)) (pe_one (pe_callC (ok_is_within T) (hr.mono (by omega)) (by rfl) pass0 (pa_cons (pe_ix u_ix (pv 5) pe_int (fun _ _ => rfl)) (pa_cons pe_int (pa_cons (pe_gint (by rfl) T.c_MOST_TEXT) pa_nil))))))))
 pss_nil)
 (pss_cons (ps_if (pt_cmpR (u_eq hr.units) (pv 4) pe_str (nomark _))
 (pss_one (ps_ret (pe_and (pe_cmpR (u_eq hr.units) (pe_callB u_len (by rfl) T.m_len PySem.boot_len (pa_cons (pv 5) pa_nil)) pe_int (nomark _)) (pe_and (pe_callC (ok_is_within T) (hr.mono (by omega)) (by rfl) pass0 (pa_cons (pe_ix u_ix (pv 5) pe_int (fun _ _ => rfl)) (pa_cons pe_int (pa_cons (pe_gint (by rfl) T.c_MOST_ROW) pa_nil)))) (pe_one (pe_callDf 4 1 ih (by simp) rfl (fun _ _ _ _ _ _ _ us its h1 h2 => match us, its, h1, h2 with | [_, _, _, _], [_], _, _ => ⟨_, rfl, rfl⟩) (hr.mono (by omega)) (by rfl) pass0 (pa_cons (pv 0) (pa_cons (pv 1) (pa_cons (pe_ix u_ix (pv 5) pe_int (fun _ _ => rfl)) (pa_cons (pe_op u_add (pv 3) pe_int) pa_nil))))))))))
 pss_nil)
 (pss_cons (ps_if (pt_cmpR (u_ne hr.units) (pe_callB u_len (by rfl) T.m_len PySem.boot_len (pa_cons (pv 5) pa_nil)) pe_int (nomark _))
 (pss_one (ps_ret pe_bl))
 pss_nil)
 (pss_cons (ps_if (pt_cmpR (u_eq hr.units) (pv 4) pe_str (nomark _))
 (pss_one (ps_ret (pe_and (pe_callDf 4 1 ih (by simp) rfl (fun _ _ _ _ _ _ _ us its h1 h2 => match us, its, h1, h2 with | [_, _, _, _], [_], _, _ => ⟨_, rfl, rfl⟩) (hr.mono (by omega)) (by rfl) pass0 (pa_cons (pv 0) (pa_cons (pv 1) (pa_cons (pe_ix u_ix (pv 5) pe_int (fun _ _ => rfl)) (pa_cons (pe_op u_add (pv 3) pe_int) pa_nil))))) (pe_one (pe_cmpR (u_ne hr.units) (pe_ix u_ix (pe_ix u_ix (pv 5) pe_int (fun _ _ => rfl)) pe_int (fun _ _ => rfl)) pe_str (nomark _))))))
 pss_nil)
 (pss_one (ps_ret (pe_or (pe_and (pe_cmpR (u_eq hr.units) (pv 4) pe_str (nomark _)) (pe_one (pe_callC (ok_is_known T) (hr.mono (by omega)) (by rfl) pass0 (pa_cons (pv 0) (pa_cons (pe_ix u_ix (pv 5) pe_int (fun _ _ => rfl)) pa_nil))))) (pe_one (pe_and (pe_cmpR (u_eq hr.units) (pv 4) pe_str (nomark _)) (pe_one (pe_callC (ok_is_known T) (hr.mono (by omega)) (by rfl) pass0 (pa_cons (pv 1) (pa_cons (pe_ix u_ix (pv 5) pe_int (fun _ _ => rfl)) pa_nil)))))))))))))))))

theorem sc_is_default : FnScope ["of", "thing"] ["of", "thing"] (defScope s_is_default) := ⟨rfl, rfl, rfl, by decide +kernel, rfl, by decide +kernel, by decide +kernel⟩
theorem ok_is_default {P : Program} {w : World} {K : PySem.W.Frag} {mg : Str → Option Value} {base : Heap} {C : Addr} (T : Txt K mg C) : Cal P w K mg base CX0 3 "is_default" ["of", "thing"] (sp_is_default K) := by
  refine Cal.of (st := s_is_default) T.d_is_default sc_is_default (fun _ _ _ _ _ _ us hl => match us, hl with | [_, _], _ => rfl) (len_is_default K) fun f cdv A outer s H vs Q E hr h => ⟨t_is_default K, ?_, p_is_default K vs H Q E h⟩
  exact (pss_cons (ps_if (pt_cmpR (u_eq hr.units) (pe_ix u_ix (pv 0) pe_int (fun _ _ => rfl)) pe_str (nomark _))
 (pss_one (ps_ret (pe_and (pe_callC (ok_is_within T) (hr.mono (by omega)) (by rfl) pass0 (pa_cons (pv 1) (pa_cons (pe_ix u_ix (pv 0) pe_int (fun _ _ => rfl)) (pa_cons (pe_ix u_ix (pv 0) pe_int (fun _ _ => rfl)) pa_nil)))) (pe_one (pe_cmpR u_le (pe_callB u_abs (by rfl) T.m_abs (by decide +kernel) (pa_cons (pv 1) pa_nil)) (pe_gint (by rfl) T.c_GREATEST) (nomark _))))))
 pss_nil)
 (pss_cons (ps_if (pt_cmpR (u_eq hr.units) (pe_ix u_ix (pv 0) pe_int (fun _ _ => rfl)) pe_str (nomark _))
 (pss_one (ps_ret (pe_callB u_isi (by rfl) T.m_isinstance (by decide +kernel) (pa_cons (pv 1) (pa_cons (pe_bltn (v := .ty "bool") (by rfl) T.m_bool (by decide +kernel) rfl) pa_nil)))))
 pss_nil)
 (pss_cons (ps_if (pt_cmpR (u_eq hr.units) (pe_ix u_ix (pv 0) pe_int (fun _ _ => rfl)) pe_str (nomark _))
 (pss_one (ps_ret (pe_and (pe_callB u_isi (by rfl) T.m_isinstance (by decide +kernel) (pa_cons (pv 1) (pa_cons (pe_bltn (v := .ty "str") (by rfl) T.m_str (by decide +kernel) rfl) pa_nil))) (pe_one (pe_cmpR u_le (pe_callB u_len (by rfl) T.m_len PySem.boot_len (pa_cons (pv 1) pa_nil)) (pe_ix u_ix (pv 0) pe_int (fun _ _ => rfl)) (nomark _))))))
 pss_nil)
 (pss_cons (ps_if (pt_cmpR (u_eq hr.units) (pe_ix u_ix (pv 0) pe_int (fun _ _ => rfl)) pe_str (nomark _))
 (pss_one (ps_ret (pe_and (pe_callB u_isi (by rfl) T.m_isinstance (by decide +kernel) (pa_cons (pv 1) (pa_cons (pe_bltn (v := .ty "tuple") (by rfl) T.m_tuple (by decide +kernel) rfl) pa_nil))) (pe_one (pe_cmpR (u_eqX hr.units) (pv 1) (pe_tup pa_nil) (nomark _))))))
 pss_nil)
 (pss_one (ps_ret (pe_and (pe_cmpR (u_eq hr.units) (pe_ix u_ix (pv 0) pe_int (fun _ _ => rfl)) pe_str (nomark _)) (pe_one (pe_cmpR u_isN (pv 1) pe_non (nomark _))))))))))

theorem sc_refuse_if : FnScope ["truth", "path", "why"] ["truth", "path", "why"] (defScope s_refuse_if) := ⟨rfl, rfl, rfl, by decide +kernel, rfl, by decide +kernel, by decide +kernel⟩
theorem ok_refuse_if {P : Program} {w : World} {K : PySem.W.Frag} {mg : Str → Option Value} {base : Heap} {C : Addr} (T : Txt K mg C) : Cal P w K mg base CX0 1 "refuse_if" ["truth", "path", "why"] (sp_refuse_if K) := by
  refine Cal.of (st := s_refuse_if) T.d_refuse_if sc_refuse_if (fun _ _ _ _ _ _ us hl => match us, hl with | [_, _, _], _ => rfl) (len_refuse_if K) fun f cdv A outer s H vs Q E hr h => ⟨t_refuse_if K, ?_, p_refuse_if K vs H Q E h⟩
  exact (pss_one (ps_if (pt_truth (pv 0) (by intro _; rfl))
 (pss_one ps_never)
 pss_nil))

theorem sc_look_at_heading : FnScope ["word", "name", "row"] ["word", "name", "row"] (defScope s_look_at_heading) := ⟨rfl, rfl, rfl, by decide +kernel, rfl, by decide +kernel, by decide +kernel⟩
theorem ok_look_at_heading {P : Program} {w : World} {K : PySem.W.Frag} {mg : Str → Option Value} {base : Heap} {C : Addr} (T : Txt K mg C) : Cal P w K mg base CX0 2 "look_at_heading" ["word", "name", "row"] (sp_look_at_heading K) := by
  refine Cal.of (st := s_look_at_heading) T.d_look_at_heading sc_look_at_heading (fun _ _ _ _ _ _ us hl => match us, hl with | [_, _, _], _ => rfl) (len_look_at_heading K) fun f cdv A outer s H vs Q E hr h => ⟨t_look_at_heading K, ?_, p_look_at_heading K vs H Q E h⟩
  exact (pss_cons (ps_expr (pe_callC (ok_refuse_if T) (hr.mono (by omega)) (by rfl) pass0 (pa_cons (pe_not (pe_callC (ok_is_name T) (hr.mono (by omega)) (by rfl) pass0 (pa_cons (pv 1) pa_nil))) (pa_cons (pe_tup (pa_cons (pv 0) (pa_cons (pv 1) (pa_cons (pe_un u_neg pe_int) pa_nil)))) (pa_cons pe_str pa_nil)))))
 (pss_one (ps_expr (pe_callC (ok_refuse_if T) (hr.mono (by omega)) (by rfl) pass0 (pa_cons (pe_not (pe_callC (ok_is_row T) (hr.mono (by omega)) (by rfl) pass0 (pa_cons (pv 2) pa_nil))) (pa_cons (pe_tup (pa_cons (pv 0) (pa_cons (pv 1) (pa_cons (pe_un u_neg pe_int) pa_nil)))) (pa_cons pe_str pa_nil)))))))

theorem sc_look_at_part : FnScope ["path", "part", "ahead", "least", "lengths", "other"] ["path", "part", "ahead", "least", "lengths"] (defScope s_look_at_part) := ⟨rfl, rfl, rfl, by decide +kernel, rfl, by decide +kernel, by decide +kernel⟩
theorem ok_look_at_part {P : Program} {w : World} {K : PySem.W.Frag} {mg : Str → Option Value} {base : Heap} {C : Addr} (T : Txt K mg C) : Cal P w K mg base CX0 3 "look_at_part" ["path", "part", "ahead", "least", "lengths"] (sp_look_at_part K) := by
  refine Cal.of (st := s_look_at_part) T.d_look_at_part sc_look_at_part (fun _ _ _ _ _ _ us hl => match us, hl with | [_, _, _, _, _], _ => rfl) (len_look_at_part K) fun f cdv A outer s H vs Q E hr h => ⟨t_look_at_part K, ?_, p_look_at_part K vs H Q E h⟩
  exact (pss_cons (ps_expr (pe_callC (ok_refuse_if T) (hr.mono (by omega)) (by rfl) pass0 (pa_cons (pe_or (pe_not (pe_callB u_isi (by rfl) T.m_isinstance (by decide +kernel) (pa_cons (pv 1) (pa_cons (pe_bltn (v := .ty "tuple") (by rfl) T.m_tuple (by decide +kernel) rfl) pa_nil)))) (pe_one (pe_cmpR u_notIn (pe_callB u_len (by rfl) T.m_len PySem.boot_len (pa_cons (pv 1) pa_nil)) (pv 4) (by rfl)))) (pa_cons (pv 0) (pa_cons pe_str pa_nil)))))
 (pss_cons (ps_expr (pe_callC (ok_refuse_if T) (hr.mono (by omega)) (by rfl) pass0 (pa_cons (pe_or (pe_not (pe_callC (ok_is_name T) (hr.mono (by omega)) (by rfl) pass0 (pa_cons (pe_ix u_ix (pv 1) pe_int (fun _ _ => rfl)) pa_nil))) (pe_one (pe_cmpR u_in (pe_ix u_ix (pv 1) pe_int (fun _ _ => rfl)) (pe_lc (own := [("other", 5)]) (g := (gName 5)) (tt := tYes) rfl sc_look_at_part.nd (pi_seq (pv 2)) (blkOk_by (N := ["path", "part", "ahead", "least", "lengths", "other"]) (sc := (defScope s_look_at_part)) (own := [("other", 5)]) (by decide +kernel)) (fun _ _ _ _ _ => (pg_name (i := 5) sc_look_at_part.nd rfl (by first | exact Or.inl rfl | exact Or.inr rfl))) (fun _ _ _ _ _ => pts_nil) (fun _ _ _ _ _ => (pe_ix u_ix (pv 5) pe_int (fun _ _ => rfl)))) (by rfl)))) (pa_cons (pv 0) (pa_cons pe_str pa_nil)))))
 (pss_cons (ps_expr (pe_callC (ok_refuse_if T) (hr.mono (by omega)) (by rfl) pass0 (pa_cons (pe_not (pe_callC (ok_is_within T) (hr.mono (by omega)) (by rfl) pass0 (pa_cons (pe_ix u_ix (pv 1) pe_int (fun _ _ => rfl)) (pa_cons (pv 3) (pa_cons (pe_gint (by rfl) T.c_MOST_NUMBER) pa_nil))))) (pa_cons (pv 0) (pa_cons pe_str pa_nil)))))
 (pss_one (ps_expr (pe_callC (ok_refuse_if T) (hr.mono (by omega)) (by rfl) pass0 (pa_cons (pe_cmpR u_in (pe_ix u_ix (pv 1) pe_int (fun _ _ => rfl)) (pe_lc (own := [("other", 5)]) (g := (gName 5)) (tt := tYes) rfl sc_look_at_part.nd (pi_seq (pv 2)) (blkOk_by (N := ["path", "part", "ahead", "least", "lengths", "other"]) (sc := (defScope s_look_at_part)) (own := [("other", 5)]) (by decide +kernel)) (fun _ _ _ _ _ => (pg_name (i := 5) sc_look_at_part.nd rfl (by first | exact Or.inl rfl | exact Or.inr rfl))) (fun _ _ _ _ _ => pts_nil) (fun _ _ _ _ _ => (pe_ix u_ix (pv 5) pe_int (fun _ _ => rfl)))) (by rfl)) (pa_cons (pv 0) (pa_cons pe_str pa_nil)))))))))

theorem sc_Schema_take_kind : FnScope ["self", "kinds", "choices", "name", "row", "place", "field", "path", "left"] ["self", "kinds", "choices", "name", "row"] (defScope s_Schema_take_kind) := ⟨rfl, rfl, rfl, by decide +kernel, rfl, by decide +kernel, by decide +kernel⟩
theorem ok_Schema_take_kind {P : Program} {w : World} {K : PySem.W.Frag} {mg : Str → Option Value} {base : Heap} {C : Addr} {Pt : Tb} (T : Txt K mg C) (B : Tbs K mg base Pt) : CalF P w K mg base CX0 8 (cAt K "Schema") s_Schema_take_kind "take_kind" "Schema.take_kind" ["self", "kinds", "choices", "name", "row"] (sp_Schema_take_kind K Pt) := by
  obtain ⟨c, D, TB⟩ := B.e_Schema_take_kind
  refine CalF.ofC D sc_Schema_take_kind (len_Schema_take_kind K Pt) fun f A outer s H vs Q E hr h => ⟨t_Schema_take_kind K C Pt, ?_, p_Schema_take_kind K C T.own Pt vs H Q E h⟩
  exact (pss_cons (ps_expr (pe_callC (ok_look_at_heading T) (hr.mono (by omega)) (by rfl) pass0 (pa_cons pe_str (pa_cons (pv 3) (pa_cons (pv 4) pa_nil)))))
 (pss_cons (ps_for PassesOwn.never rfl (pi_enumV (by rfl) T.m_enumerate (pv 4)) (pg_tup (by rfl) (pgs_cons (pg_name (i := 5) sc_Schema_take_kind.nd rfl (by first | exact Or.inl rfl | exact Or.inr rfl)) (pgs_cons (pg_name (i := 6) sc_Schema_take_kind.nd rfl (by first | exact Or.inl rfl | exact Or.inr rfl)) pgs_nil)))
 (pss_cons (ps_set (i := 7) sc_Schema_take_kind.nd rfl (by first | exact Or.inl rfl | exact Or.inr rfl) (pe_tup (pa_cons pe_str (pa_cons (pv 3) (pa_cons (pv 5) pa_nil)))))
 (pss_cons (ps_expr (pe_callC (ok_look_at_part T) (hr.mono (by omega)) (by rfl) pass0 (pa_cons (pv 7) (pa_cons (pv 6) (pa_cons (pe_slice u_slV (pv 4) po_none (po_some (pv 5))) (pa_cons pe_int (pa_cons (pe_tup (pa_cons pe_int (pa_cons pe_int pa_nil))) pa_nil)))))))
 (pss_cons (ps_expr (pe_callC (ok_refuse_if T) (hr.mono (by omega)) (by rfl) pass0 (pa_cons (pe_not (pe_callDf 3 0 (ok_is_sort T 4) (by simp) rfl (fun _ _ _ _ _ _ _ us its h1 h2 => match us, its, h1, h2 with | [_, _, _], [_], _, _ => ⟨_, rfl, rfl⟩) (hr.mono (by omega)) (by rfl) pass0 (pa_cons (pv 1) (pa_cons (pv 2) (pa_cons (pe_ix u_ix (pv 6) pe_int (fun _ _ => rfl)) pa_nil))))) (pa_cons (pv 7) (pa_cons pe_str pa_nil)))))
 (pss_one (ps_expr (pe_callC (ok_refuse_if T) (hr.mono (by omega)) (by rfl) pass0 (pa_cons (pe_not (pe_callB (u_all rfl) (by rfl) T.m_all (by decide +kernel) (pa_cons (pe_lc (own := [("left", 8)]) (g := (gName 8)) (tt := tYes) rfl sc_Schema_take_kind.nd (pi_tup (pe_callC (ok_left_of T) (hr.mono (by omega)) (by rfl) pass0 (pa_cons (pv 6) pa_nil))) (blkOk_by (N := ["self", "kinds", "choices", "name", "row", "place", "field", "path", "left"]) (sc := (defScope s_Schema_take_kind)) (own := [("left", 8)]) (by decide +kernel)) (fun _ _ _ _ _ => (pg_name (i := 8) sc_Schema_take_kind.nd rfl (by first | exact Or.inl rfl | exact Or.inr rfl))) (fun _ _ _ _ _ => pts_nil) (fun _ _ _ _ _ => (pe_callC (ok_is_default T) (hr.mono (by omega)) (by rfl) pass0 (pa_cons (pe_ix u_ix (pv 6) pe_int (fun _ _ => rfl)) (pa_cons (pv 8) pa_nil))))) pa_nil))) (pa_cons (pv 7) (pa_cons pe_str pa_nil))))))))))
 (pss_one (ps_dput (hu_of hr) (pe_fldU (pv 0) (by rfl)) (pv 3) (pe_callTy u_tuple (by rfl) T.m_tuple (by decide +kernel) (pa_cons (pe_sortKey (by rfl) T.m_sorted (pv 4) TB rfl rfl (hr.mono (by omega)) (NdefX.nscope_by (by decide +kernel)) (by decide +kernel) rfl rfl (fun _ _ _ _ _ => rfl)) pa_nil)) rfl))))

theorem sc_Schema_take_choice : FnScope ["self", "kinds", "choices", "name", "row", "place", "case", "path", "number", "word", "content"] ["self", "kinds", "choices", "name", "row"] (defScope s_Schema_take_choice) := ⟨rfl, rfl, rfl, by decide +kernel, rfl, by decide +kernel, by decide +kernel⟩
theorem ok_Schema_take_choice {P : Program} {w : World} {K : PySem.W.Frag} {mg : Str → Option Value} {base : Heap} {C : Addr} {Pt : Tb} (T : Txt K mg C) (B : Tbs K mg base Pt) : CalF P w K mg base CX0 8 (cAt K "Schema") s_Schema_take_choice "take_choice" "Schema.take_choice" ["self", "kinds", "choices", "name", "row"] (sp_Schema_take_choice K Pt) := by
  obtain ⟨c, D, TB⟩ := B.e_Schema_take_choice
  refine CalF.ofC D sc_Schema_take_choice (len_Schema_take_choice K Pt) fun f A outer s H vs Q E hr h => ⟨t_Schema_take_choice K C Pt, ?_, p_Schema_take_choice K C T.own Pt vs H Q E h⟩
  exact (pss_cons (ps_expr (pe_callC (ok_look_at_heading T) (hr.mono (by omega)) (by rfl) pass0 (pa_cons pe_str (pa_cons (pv 3) (pa_cons (pv 4) pa_nil)))))
 (pss_cons (ps_expr (pe_callC (ok_refuse_if T) (hr.mono (by omega)) (by rfl) pass0 (pa_cons (pe_cmpR (u_eq hr.units) (pe_callB u_len (by rfl) T.m_len PySem.boot_len (pa_cons (pv 4) pa_nil)) pe_int (nomark _)) (pa_cons (pe_tup (pa_cons pe_str (pa_cons (pv 3) (pa_cons (pe_un u_neg pe_int) pa_nil)))) (pa_cons pe_str pa_nil)))))
 (pss_cons (ps_for PassesOwn.never rfl (pi_enumV (by rfl) T.m_enumerate (pv 4)) (pg_tup (by rfl) (pgs_cons (pg_name (i := 5) sc_Schema_take_choice.nd rfl (by first | exact Or.inl rfl | exact Or.inr rfl)) (pgs_cons (pg_name (i := 6) sc_Schema_take_choice.nd rfl (by first | exact Or.inl rfl | exact Or.inr rfl)) pgs_nil)))
 (pss_cons (ps_set (i := 7) sc_Schema_take_choice.nd rfl (by first | exact Or.inl rfl | exact Or.inr rfl) (pe_tup (pa_cons pe_str (pa_cons (pv 3) (pa_cons (pv 5) pa_nil)))))
 (pss_cons (ps_expr (pe_callC (ok_look_at_part T) (hr.mono (by omega)) (by rfl) pass0 (pa_cons (pv 7) (pa_cons (pv 6) (pa_cons (pe_slice u_slV (pv 4) po_none (po_some (pv 5))) (pa_cons pe_int (pa_cons (pe_tup (pa_cons pe_int pa_nil)) pa_nil)))))))
 (pss_cons (ps_asg (pv 6) (pg_tup (by rfl) (pgs_cons (pg_name (i := 8) sc_Schema_take_choice.nd rfl (by first | exact Or.inl rfl | exact Or.inr rfl)) (pgs_cons (pg_name (i := 9) sc_Schema_take_choice.nd rfl (by first | exact Or.inl rfl | exact Or.inr rfl)) (pgs_cons (pg_name (i := 10) sc_Schema_take_choice.nd rfl (by first | exact Or.inl rfl | exact Or.inr rfl)) pgs_nil)))))
 (pss_cons (ps_expr (pe_callC (ok_refuse_if T) (hr.mono (by omega)) (by rfl) pass0 (pa_cons (pe_and (pe_cmpR u_notN (pv 10) pe_non (nomark _)) (pe_one (pe_not (pe_callDf 3 0 (ok_is_sort T 4) (by simp) rfl (fun _ _ _ _ _ _ _ us its h1 h2 => match us, its, h1, h2 with | [_, _, _], [_], _, _ => ⟨_, rfl, rfl⟩) (hr.mono (by omega)) (by rfl) pass0 (pa_cons (pv 1) (pa_cons (pv 2) (pa_cons (pv 10) pa_nil))))))) (pa_cons (pv 7) (pa_cons pe_str pa_nil)))))
 (pss_one (ps_expr (pe_callC (ok_refuse_if T) (hr.mono (by omega)) (by rfl) pass0 (pa_cons (pe_and (pe_cmpR (u_eq hr.units) (pv 8) pe_int (nomark _)) (pe_one (pe_cmpR u_notN (pv 10) pe_non (nomark _)))) (pa_cons (pv 7) (pa_cons pe_str pa_nil)))))))))))
 (pss_one (ps_dput (hu_of hr) (pe_fldU (pv 0) (by rfl)) (pv 3) (pe_callTy u_tuple (by rfl) T.m_tuple (by decide +kernel) (pa_cons (pe_sortKey (by rfl) T.m_sorted (pv 4) TB rfl rfl (hr.mono (by omega)) (NdefX.nscope_by (by decide +kernel)) (by decide +kernel) rfl rfl (fun _ _ _ _ _ => rfl)) pa_nil)) rfl)))))

theorem sc_Schema_comes_back : FnScope ["self", "name", "seen", "at", "content"] ["self", "name"] (defScope s_Schema_comes_back) := ⟨rfl, rfl, rfl, by decide +kernel, rfl, by decide +kernel, by decide +kernel⟩
theorem ok_Schema_comes_back {P : Program} {w : World} {K : PySem.W.Frag} {mg : Str → Option Value} {base : Heap} {C : Addr} (T : Txt K mg C) : CalF P w K mg base CX0 1 (cAt K "Schema") s_Schema_comes_back "comes_back" "Schema.comes_back" ["self", "name"] (sp_Schema_comes_back K) := by
  refine CalF.of T.d_Schema_comes_back sc_Schema_comes_back (len_Schema_comes_back K) fun f cdv A outer s H vs Q E hr h => ⟨t_Schema_comes_back K C, ?_, p_Schema_comes_back K C T.own vs H Q E h⟩
  exact (pss_cons (ps_set (i := 2) sc_Schema_comes_back.nd rfl (by first | exact Or.inl rfl | exact Or.inr rfl) pe_dnewK)
 (pss_cons (ps_set (i := 3) sc_Schema_comes_back.nd rfl (by first | exact Or.inl rfl | exact Or.inr rfl) (pv 1))
 (pss_cons (ps_while PassesOwn.never (pt_cmp (pc_dnotin (hu_of hr) (pv 3) (pv 2)))
 (pss_cons (ps_dput (hu_of hr) (pv 2) (pv 3) pe_bl rfl)
 (pss_cons (ps_set (i := 4) sc_Schema_comes_back.nd rfl (by first | exact Or.inl rfl | exact Or.inr rfl) (pe_ix u_ix (pe_ix u_ix (pe_dget (hu_of hr) (pe_fldU (pv 0) (by rfl)) (pv 3) (fun _ _ => rfl)) pe_int (fun _ _ => rfl)) pe_int (fun _ _ => rfl)))
 (pss_cons (ps_if (PW.pt (pw_or (pt_cmpR u_isN (pv 4) pe_non (nomark _)) (pw_or1 (pt_cmpR (u_ne hr.units) (pe_ix u_ix (pv 4) pe_int (fun _ _ => rfl)) pe_str (nomark _)))))
 (pss_one (ps_ret pe_bl))
 pss_nil)
 (pss_one (ps_set (i := 3) sc_Schema_comes_back.nd rfl (by first | exact Or.inl rfl | exact Or.inr rfl) (pe_ix u_ix (pv 4) pe_int (fun _ _ => rfl))))))))
 (pss_one (ps_ret (pe_cmpR (u_eq hr.units) (pv 3) (pv 1) (nomark _)))))))

theorem sc_Schema___init__ : FnScope ["self", "kinds", "choices", "root", "some", "name", "row"] ["self", "kinds", "choices", "root"] (defScope s_Schema___init__) := ⟨rfl, rfl, rfl, by decide +kernel, rfl, by decide +kernel, by decide +kernel⟩
theorem ok_Schema___init__ {P : Program} {w : World} {K : PySem.W.Frag} {mg : Str → Option Value} {base : Heap} {C : Addr} {Pt : Tb} (T : Txt K mg C) (B : Tbs K mg base Pt) : CalK P w K mg base CX0 9 (cAt K "Schema") s_Schema___init__ "Schema.__init__" [("choices", .non)] ["self", "kinds", "choices", "root"] (sp_Schema___init__ K Pt) := by
  refine CalK.of T.d_Schema___init__ sc_Schema___init__ (len_Schema___init__ K Pt) fun f cdv A outer s H vs Q E hr h => ⟨t_Schema___init__ K C Pt, ?_, p_Schema___init__ K C T.own Pt vs H Q E h⟩
  unfold t_Schema___init__ b_Schema___init___0 b_Schema___init___1 b_Schema___init___2
  exact (pss_cons (ps_set (i := 4) sc_Schema___init__.nd rfl (by first | exact Or.inl rfl | exact Or.inr rfl) (pe_ifExp (pt_cmpR u_isN (pv 2) pe_non (nomark _)) pe_dnewK (pv 2)))
 (pss_cons (ps_asg (pe_tup (pa_cons pe_dnewK (pa_cons pe_dnewK (pa_cons (pv 3) pa_nil)))) (pg_tup (by rfl) (pgs_cons (pg_attr (pv 0)) (pgs_cons (pg_attr (pv 0)) (pgs_cons (pg_attr (pv 0)) pgs_nil)))))
 (pss_cons (ps_lock (ps_for PassesOwn.never rfl (pi_items (pv 1)) (pg_tup (by rfl) (pgs_cons (pg_name (i := 5) sc_Schema___init__.nd rfl (by first | exact Or.inl rfl | exact Or.inr rfl)) (pgs_cons (pg_name (i := 6) sc_Schema___init__.nd rfl (by first | exact Or.inl rfl | exact Or.inr rfl)) pgs_nil)))
 (pss_one (ps_expr (pe_methM (pv 0) T.own.Schema.cl (CalF.calM (ok_Schema_take_kind T B) (fun _ _ _ _ _ _ us hl => match us, hl with | [_, _, _, _, _], _ => rfl)) (hr.mono (by omega)) pass0 (pa_cons (pv 1) (pa_cons (pv 4) (pa_cons (pv 5) (pa_cons (pv 6) pa_nil)))))))))
 (pss_cons (ps_lock (ps_for PassesOwn.never rfl (pi_items (pv 4)) (pg_tup (by rfl) (pgs_cons (pg_name (i := 5) sc_Schema___init__.nd rfl (by first | exact Or.inl rfl | exact Or.inr rfl)) (pgs_cons (pg_name (i := 6) sc_Schema___init__.nd rfl (by first | exact Or.inl rfl | exact Or.inr rfl)) pgs_nil)))
 (pss_one (ps_expr (pe_methM (pv 0) T.own.Schema.cl (CalF.calM (ok_Schema_take_choice T B) (fun _ _ _ _ _ _ us hl => match us, hl with | [_, _, _, _, _], _ => rfl)) (hr.mono (by omega)) pass0 (pa_cons (pv 1) (pa_cons (pv 4) (pa_cons (pv 5) (pa_cons (pv 6) pa_nil)))))))))
 (pss_cons (ps_expr (pe_callC (ok_refuse_if T) (hr.mono (by omega)) (by rfl) pass0 (pa_cons (pe_not (pe_callDf 3 0 (ok_is_sort T 4) (by simp) rfl (fun _ _ _ _ _ _ _ us its h1 h2 => match us, its, h1, h2 with | [_, _, _], [_], _, _ => ⟨_, rfl, rfl⟩) (hr.mono (by omega)) (by rfl) pass0 (pa_cons (pv 1) (pa_cons (pv 4) (pa_cons (pv 3) pa_nil))))) (pa_cons (pe_tup (pa_cons pe_str pa_nil)) (pa_cons pe_str pa_nil)))))
 (pss_one (ps_lock (ps_for PassesOwn.never rfl (pi_keys (pe_fldU (pv 0) (by rfl))) (pg_name (i := 5) sc_Schema___init__.nd rfl (by first | exact Or.inl rfl | exact Or.inr rfl))
 (pss_one (ps_expr (pe_callC (ok_refuse_if T) (hr.mono (by omega)) (by rfl) pass0 (pa_cons (pe_methM (pv 0) T.own.Schema.cl (CalF.calM (ok_Schema_comes_back T) (fun _ _ _ _ _ _ us hl => match us, hl with | [_, _], _ => rfl)) (hr.mono (by omega)) pass0 (pa_cons (pv 5) pa_nil)) (pa_cons (pe_tup (pa_cons pe_str (pa_cons (pv 5) (pa_cons (pe_un u_neg pe_int) pa_nil)))) (pa_cons pe_str pa_nil))))))))))))))

theorem sc_law_well : FnScope ["_law_cell"] ["_law_cell"] (defScope s_law_well) := ⟨rfl, rfl, rfl, by decide +kernel, rfl, by decide +kernel, by decide +kernel⟩
theorem ok_law_well {P : Program} {w : World} {K : PySem.W.Frag} {mg : Str → Option Value} {base : Heap} {C : Addr} (T : Txt K mg C) : Cal P w K mg base CX0 1 "_law_well" ["_law_cell"] (sp_law_well K) := by
  refine Cal.of (st := s_law_well) T.d_law_well sc_law_well (fun _ _ _ _ _ _ us hl => match us, hl with | [_], _ => rfl) (len_law_well K) fun f cdv A outer s H vs Q E hr h => ⟨t_law_well K, ?_, p_law_well K vs H Q E h⟩
  exact (pss_one (ps_ret (pe_lst (pa_cons (pe_op u_mul (pv 0) (pe_callTy u_int (by rfl) T.m_int (by decide +kernel) (pa_cons (pe_cmpR u_ge (pv 0) (pe_op u_pow pe_int pe_int) (nomark _)) pa_nil))) (pa_cons (pe_op u_mod (pv 0) pe_int) (pa_cons pe_int pa_nil))))))

theorem sc_law_draw : FnScope ["_law_well_here", "_law_many", "_law_found", "_law_number_here"] ["_law_well_here", "_law_many"] (defScope s_law_draw) := ⟨rfl, rfl, rfl, by decide +kernel, rfl, by decide +kernel, by decide +kernel⟩
theorem ok_law_draw {P : Program} {w : World} {K : PySem.W.Frag} {mg : Str → Option Value} {base : Heap} {C : Addr} (T : Txt K mg C) : Cal P w K mg base CX0 1 "_law_draw" ["_law_well_here", "_law_many"] (sp_law_draw K) := by
  refine Cal.of (st := s_law_draw) T.d_law_draw sc_law_draw (fun _ _ _ _ _ _ us hl => match us, hl with | [_, _], _ => rfl) (len_law_draw K) fun f cdv A outer s H vs Q E hr h => ⟨t_law_draw K, ?_, p_law_draw K vs H Q E h⟩
  exact (pss_cons (ps_if (pt_cmpR u_gt (pe_ix u_ix (pv 0) pe_int (fun _ _ => rfl)) pe_int (nomark _))
 (pss_cons (ps_set (i := 2) sc_law_draw.nd rfl (by first | exact Or.inl rfl | exact Or.inr rfl) (pe_op u_mod (pe_ix u_ix (pv 0) pe_int (fun _ _ => rfl)) (pv 1)))
 (pss_cons (ps_asg (pe_op u_div (pe_ix u_ix (pv 0) pe_int (fun _ _ => rfl)) (pv 1)) (pg_sub (pv 0) pe_int u_set))
 (pss_one (ps_ret (pv 2)))))
 pss_nil)
 (pss_cons (ps_asg (pe_op u_add (pe_ix u_ix (pv 0) pe_int (fun _ _ => rfl)) pe_int) (pg_sub (pv 0) pe_int u_set))
 (pss_cons (ps_set (i := 3) sc_law_draw.nd rfl (by first | exact Or.inl rfl | exact Or.inr rfl) (pe_op u_mod (pe_op u_mul (pe_op u_add (pe_op u_add (pe_ix u_ix (pv 0) pe_int (fun _ _ => rfl)) (pe_op u_mul pe_int (pe_ix u_ix (pv 0) pe_int (fun _ _ => rfl)))) pe_int) pe_int) pe_int))
 (pss_cons (ps_set (i := 3) sc_law_draw.nd rfl (by first | exact Or.inl rfl | exact Or.inr rfl) (pe_op u_mod (pe_op u_mul (pv 3) (pe_op u_add (pe_op u_div (pv 3) pe_int) pe_int)) pe_int))
 (pss_one (ps_ret (pe_op u_mod (pe_op u_mod (pe_op u_mul (pv 3) (pe_op u_add (pe_op u_div (pv 3) pe_int) pe_int)) pe_int) (pv 1))))))))

theorem sc_law_names : FnScope ["_law_well_here", "_law_many", "_law_letters", "_law_found", "_law_k", "_law_size", "_law_name", "_law_j"] ["_law_well_here", "_law_many"] (defScope s_law_names) := ⟨rfl, rfl, rfl, by decide +kernel, rfl, by decide +kernel, by decide +kernel⟩
theorem ok_law_names {P : Program} {w : World} {K : PySem.W.Frag} {mg : Str → Option Value} {base : Heap} {C : Addr} (T : Txt K mg C) : Cal P w K mg base CX0 2 "_law_names" ["_law_well_here", "_law_many"] (sp_law_names K) := by
  refine Cal.of (st := s_law_names) T.d_law_names sc_law_names (fun _ _ _ _ _ _ us hl => match us, hl with | [_, _], _ => rfl) (len_law_names K) fun f cdv A outer s H vs Q E hr h => ⟨t_law_names K, ?_, p_law_names K vs H Q E h⟩
  unfold t_law_names b_law_names_0 b_law_names_1
  exact (pss_cons (ps_set (i := 2) sc_law_names.nd rfl (by first | exact Or.inl rfl | exact Or.inr rfl) pe_str)
 (pss_cons (ps_set (i := 3) sc_law_names.nd rfl (by first | exact Or.inl rfl | exact Or.inr rfl) (pe_lst pa_nil))
 (pss_cons (ps_for PassesOwn.never rfl (pi_range1 (by rfl) T.m_range (pa_cons (pv 1) pa_nil)) (pg_name (i := 4) sc_law_names.nd rfl (by first | exact Or.inl rfl | exact Or.inr rfl))
 (pss_cons (ps_set (i := 5) sc_law_names.nd rfl (by first | exact Or.inl rfl | exact Or.inr rfl) (pe_op u_add pe_int (pe_callC (ok_law_draw T) (hr.mono (by omega)) (by rfl) pass0 (pa_cons (pv 0) (pa_cons pe_int pa_nil)))))
 (pss_cons (ps_set (i := 6) sc_law_names.nd rfl (by first | exact Or.inl rfl | exact Or.inr rfl) (pe_join pe_str (pe_lc (own := [("_law_j", 7)]) (g := (gName 7)) (tt := tYes) rfl sc_law_names.nd (pi_range1 (by rfl) T.m_range (pa_cons (pv 5) pa_nil)) (blkOk_by (N := ["_law_well_here", "_law_many", "_law_letters", "_law_found", "_law_k", "_law_size", "_law_name", "_law_j"]) (sc := (defScope s_law_names)) (own := [("_law_j", 7)]) (by decide +kernel)) (fun _ _ _ _ _ => (pg_name (i := 7) sc_law_names.nd rfl (by first | exact Or.inl rfl | exact Or.inr rfl))) (fun _ _ _ _ _ => pts_nil) (fun _ _ _ _ _ => (pe_ix u_ix (pv 2) (pe_callC (ok_law_draw T) (hr.mono (by omega)) (by rfl) pass0 (pa_cons (pv 0) (pa_cons pe_int pa_nil))) (fun _ _ => rfl))))))
 (pss_cons (ps_if (PW.pt (pw_and (pt_cmpR (u_neX hr.units) (pv 3) (pe_lst pa_nil) (nomark _)) (pw_and1 (pt_cmpR (u_eq hr.units) (pe_callC (ok_law_draw T) (hr.mono (by omega)) (by rfl) pass0 (pa_cons (pv 0) (pa_cons pe_int pa_nil))) pe_int (nomark _)))))
 (pss_one (ps_set (i := 6) sc_law_names.nd rfl (by first | exact Or.inl rfl | exact Or.inr rfl) (pe_op u_add (pe_slice u_slS (pe_ix u_ix (pv 3) (pe_un u_neg pe_int) (fun _ _ => rfl)) po_none (po_some pe_int)) (pe_ix u_ix (pv 2) (pe_callC (ok_law_draw T) (hr.mono (by omega)) (by rfl) pass0 (pa_cons (pv 0) (pa_cons pe_int pa_nil))) (fun _ _ => rfl)))))
 pss_nil)
 (pss_cons (ps_while PassesOwn.never (pt_cmpR u_in (pv 6) (pv 3) (by rfl))
 (pss_one (ps_set (i := 6) sc_law_names.nd rfl (by first | exact Or.inl rfl | exact Or.inr rfl) (pe_op u_add (pe_slice u_slS (pv 6) po_none (po_some (pe_un u_neg pe_int))) (pe_ix u_ix (pv 2) (pe_op u_mod (pe_op u_add (pe_m1 PySem.F.slot_str_index PySem.F.type_str_index mt_sindex (pv 2) (pe_ix u_ix (pv 6) (pe_un u_neg pe_int) (fun _ _ => rfl))) pe_int) pe_int) (fun _ _ => rfl))))))
 (pss_one (ps_expr (pe_bm PySem.F.plainAttrs_list PySem.F.slot_list_append PySem.F.type_list_append u_append (pv 3) (pa_cons (pv 6) pa_nil)))))))))
 (pss_one (ps_ret (pv 3))))))

theorem sc_law_number : FnScope ["_law_well_here", "_law_great", "_law_k", "_law_small"] ["_law_well_here"] (defScope s_law_number) := ⟨rfl, rfl, rfl, by decide +kernel, rfl, by decide +kernel, by decide +kernel⟩
theorem ok_law_number {P : Program} {w : World} {K : PySem.W.Frag} {mg : Str → Option Value} {base : Heap} {C : Addr} (T : Txt K mg C) : Cal P w K mg base CX0 2 "_law_number" ["_law_well_here"] (sp_law_number K) := by
  refine Cal.of (st := s_law_number) T.d_law_number sc_law_number (fun _ _ _ _ _ _ us hl => match us, hl with | [_], _ => rfl) (len_law_number K) fun f cdv A outer s H vs Q E hr h => ⟨t_law_number K, ?_, p_law_number K vs H Q E h⟩
  exact (pss_cons (ps_set (i := 1) sc_law_number.nd rfl (by first | exact Or.inl rfl | exact Or.inr rfl) pe_int)
 (pss_cons (ps_for PassesOwn.never rfl (pi_range1 (by rfl) T.m_range (pa_cons pe_int pa_nil)) (pg_name (i := 2) sc_law_number.nd rfl (by first | exact Or.inl rfl | exact Or.inr rfl))
 (pss_one (ps_set (i := 1) sc_law_number.nd rfl (by first | exact Or.inl rfl | exact Or.inr rfl) (pe_op u_add (pe_op u_mul (pv 1) (pe_op u_pow pe_int pe_int)) (pe_callC (ok_law_draw T) (hr.mono (by omega)) (by rfl) pass0 (pa_cons (pv 0) (pa_cons (pe_op u_pow pe_int pe_int) pa_nil)))))))
 (pss_cons (ps_set (i := 3) sc_law_number.nd rfl (by first | exact Or.inl rfl | exact Or.inr rfl) (pe_op u_sub (pe_callC (ok_law_draw T) (hr.mono (by omega)) (by rfl) pass0 (pa_cons (pv 0) (pa_cons pe_int pa_nil))) pe_int))
 (pss_one (ps_ret (pe_ix u_ix (pe_lst (pa_cons (pv 3) (pa_cons (pv 3) (pa_cons pe_int (pa_cons (pv 1) (pa_cons (pe_op u_sub pe_int (pv 1)) (pa_cons (pe_op u_add (pe_op u_mul (pv 1) (pe_op u_pow pe_int pe_int)) pe_int) pa_nil))))))) (pe_callC (ok_law_draw T) (hr.mono (by omega)) (by rfl) pass0 (pa_cons (pv 0) (pa_cons pe_int pa_nil))) (fun _ _ => rfl)))))))

theorem sc_law_sort : FnScope ["_law_well_here", "_law_nodes", "_law_some", "_law_deep", "_law_lot", "_law_low", "_law_high", "_law_inner"] ["_law_well_here", "_law_nodes", "_law_some", "_law_deep"] (defScope s_law_sort) := ⟨rfl, rfl, rfl, by decide +kernel, rfl, by decide +kernel, by decide +kernel⟩
theorem ok_law_sort {P : Program} {w : World} {K : PySem.W.Frag} {mg : Str → Option Value} {base : Heap} {C : Addr} (T : Txt K mg C) : ∀ n : Nat, Cal P w K mg base CX0 (3 + n) "_law_sort" ["_law_well_here", "_law_nodes", "_law_some", "_law_deep"] (sp_law_sort K n)
  | 0 => Cal.of (k := 2) (st := s_law_sort) T.d_law_sort sc_law_sort (fun _ _ _ _ _ _ us hl => match us, hl with | [_, _, _, _], _ => rfl) (fun vs H Q E h => (no_law_sort K h).elim) fun f cdv A outer s H vs Q E hr h => (no_law_sort K h).elim
  | n + 1 => by
    have ih := ok_law_sort (P := P) (w := w) (base := base) T n
    refine Cal.of (k := 3 + n) (st := s_law_sort) T.d_law_sort sc_law_sort (fun _ _ _ _ _ _ us hl => match us, hl with | [_, _, _, _], _ => rfl) (len_law_sort K n) fun f cdv A outer s H vs Q E hr h => ⟨t_law_sort K n, ?_, p_law_sort K n vs H Q E h⟩
    unfold t_law_sort b_law_sort_0 b_law_sort_1 b_law_sort_2 b_law_sort_3 b_law_sort_4
    exact (pss_cons (ps_set (i := 4) sc_law_sort.nd rfl (by first | exact Or.inl rfl | exact Or.inr rfl) (pe_callC (ok_law_draw T) (hr.mono (by omega)) (by rfl) pass0 (pa_cons (pv 0) (pa_cons pe_int pa_nil))))
 (pss_cons (ps_asg (pe_callB u_sorted (by rfl) T.m_sorted (by decide +kernel) (pa_cons (pe_lst (pa_cons (pe_callC (ok_law_number T) (hr.mono (by omega)) (by rfl) pass0 (pa_cons (pv 0) pa_nil)) (pa_cons (pe_callC (ok_law_number T) (hr.mono (by omega)) (by rfl) pass0 (pa_cons (pv 0) pa_nil)) pa_nil))) pa_nil)) (pg_unl (by rfl) (pgs_cons (pg_name (i := 5) sc_law_sort.nd rfl (by first | exact Or.inl rfl | exact Or.inr rfl)) (pgs_cons (pg_name (i := 6) sc_law_sort.nd rfl (by first | exact Or.inl rfl | exact Or.inr rfl)) pgs_nil))))
 (pss_cons (ps_if (pt_cmpR u_lt (pv 4) pe_int (nomark _))
 (pss_one (ps_ret (pe_tup (pa_cons pe_str (pa_cons (pe_ix u_ix (pe_lst (pa_cons pe_non (pa_cons (pv 5) pa_nil))) (pe_callC (ok_law_draw T) (hr.mono (by omega)) (by rfl) pass0 (pa_cons (pv 0) (pa_cons pe_int pa_nil))) (fun _ _ => rfl)) (pa_cons (pe_ix u_ix (pe_lst (pa_cons pe_non (pa_cons (pv 6) (pa_cons (pv 5) pa_nil)))) (pe_callC (ok_law_draw T) (hr.mono (by omega)) (by rfl) pass0 (pa_cons (pv 0) (pa_cons pe_int pa_nil))) (fun _ _ => rfl)) pa_nil))))))
 pss_nil)
 (pss_cons (ps_if (pt_cmpR (u_eq hr.units) (pv 4) pe_int (nomark _))
 (pss_one (ps_ret (pe_tup (pa_cons pe_str (pa_cons (pe_ix u_ix (pe_lst (pa_cons pe_int (pa_cons pe_int (pa_cons (pe_callC (ok_law_draw T) (hr.mono (by omega)) (by rfl) pass0 (pa_cons (pv 0) (pa_cons pe_int pa_nil))) pa_nil)))) (pe_callC (ok_law_draw T) (hr.mono (by omega)) (by rfl) pass0 (pa_cons (pv 0) (pa_cons pe_int pa_nil))) (fun _ _ => rfl)) pa_nil)))))
 pss_nil)
 (pss_cons (ps_if (PW.pt (pw_and (pt_cmpR (u_eq hr.units) (pv 4) pe_int (nomark _)) (pw_and1 (pt_cmpR (u_neX hr.units) (pv 2) (pe_lst pa_nil) (nomark _)))))
 (pss_one (ps_ret (pe_tup (pa_cons pe_str (pa_cons (pe_ix u_ix (pv 2) (pe_callC (ok_law_draw T) (hr.mono (by omega)) (by rfl) pass0 (pa_cons (pv 0) (pa_cons (pe_callB u_len (by rfl) T.m_len PySem.boot_len (pa_cons (pv 2) pa_nil)) pa_nil))) (fun _ _ => rfl)) pa_nil)))))
 pss_nil)
 (pss_cons (ps_if (PW.pt (pw_and (pt_cmpR u_in (pv 4) (pe_lst (pa_cons pe_int (pa_cons pe_int pa_nil))) (by rfl)) (pw_and1 (pt_cmpR u_gt (pv 3) pe_int (nomark _)))))
 (pss_one (ps_ret (pe_tup (pa_cons pe_str (pa_cons (pe_ix u_ix (pe_lst (pa_cons pe_int (pa_cons pe_int (pa_cons (pe_callC (ok_law_draw T) (hr.mono (by omega)) (by rfl) pass0 (pa_cons (pv 0) (pa_cons pe_int pa_nil))) pa_nil)))) (pe_callC (ok_law_draw T) (hr.mono (by omega)) (by rfl) pass0 (pa_cons (pv 0) (pa_cons pe_int pa_nil))) (fun _ _ => rfl)) (pa_cons (pe_callC ih (hr.mono (by omega)) (by rfl) pass0 (pa_cons (pv 0) (pa_cons (pv 1) (pa_cons (pv 2) (pa_cons (pe_op u_sub (pv 3) pe_int) pa_nil))))) pa_nil))))))
 pss_nil)
 (pss_cons (ps_if (PW.pt (pw_and (pt_cmpR (u_eq hr.units) (pv 4) pe_int (nomark _)) (pw_and1 (pt_cmpR u_gt (pv 3) pe_int (nomark _)))))
 (pss_cons (ps_set (i := 7) sc_law_sort.nd rfl (by first | exact Or.inl rfl | exact Or.inr rfl) (pe_callC ih (hr.mono (by omega)) (by rfl) pass0 (pa_cons (pv 0) (pa_cons (pv 1) (pa_cons (pv 2) (pa_cons (pe_op u_sub (pv 3) pe_int) pa_nil))))))
 (pss_one (ps_ret (pe_ix u_ix (pe_lst (pa_cons (pe_tup (pa_cons pe_str (pa_cons (pv 7) pa_nil))) (pa_cons (pv 7) pa_nil))) (pe_callTy u_int (by rfl) T.m_int (by decide +kernel) (pa_cons (pe_cmpR (u_eq hr.units) (pe_ix u_ix (pv 7) pe_int (fun _ _ => rfl)) pe_str (nomark _)) pa_nil)) (fun _ _ => rfl)))))
 pss_nil)
 (pss_cons (ps_if (PW.pt (pw_and (pt_cmpR u_gt (pv 4) pe_int (nomark _)) (pw_and1 (pt_cmpR (u_neX hr.units) (pv 1) (pe_lst pa_nil) (nomark _)))))
 (pss_one (ps_ret (pe_tup (pa_cons pe_str (pa_cons (pe_ix u_ix (pv 1) (pe_callC (ok_law_draw T) (hr.mono (by omega)) (by rfl) pass0 (pa_cons (pv 0) (pa_cons (pe_callB u_len (by rfl) T.m_len PySem.boot_len (pa_cons (pv 1) pa_nil)) pa_nil))) (fun _ _ => rfl)) pa_nil)))))
 pss_nil)
 (pss_one (ps_ret (pe_tup (pa_cons pe_str pa_nil))))))))))))

theorem sc_law_left : FnScope ["_law_well_here", "_law_of", "_law_ends", "_law_found", "_law_low", "_law_high", "_law_signs", "_law_at", "_law_word", "_law_end"] ["_law_well_here", "_law_of"] (defScope s_law_left) := ⟨rfl, rfl, rfl, by decide +kernel, rfl, by decide +kernel, by decide +kernel⟩
theorem ok_law_left {P : Program} {w : World} {K : PySem.W.Frag} {mg : Str → Option Value} {base : Heap} {C : Addr} (T : Txt K mg C) : Cal P w K mg base CX0 2 "_law_left" ["_law_well_here", "_law_of"] (sp_law_left K) := by
  refine Cal.of (st := s_law_left) T.d_law_left sc_law_left (fun _ _ _ _ _ _ us hl => match us, hl with | [_, _], _ => rfl) (len_law_left K) fun f cdv A outer s H vs Q E hr h => ⟨t_law_left K, ?_, p_law_left K vs H Q E h⟩
  unfold t_law_left b_law_left_0 b_law_left_1 b_law_left_2
  exact (pss_cons (ps_if (PW.pt (pw_or (pt_cmpR (u_eq hr.units) (pe_callC (ok_law_draw T) (hr.mono (by omega)) (by rfl) pass0 (pa_cons (pv 0) (pa_cons pe_int pa_nil))) pe_int (nomark _)) (pw_or1 (pt_cmpR u_in (pe_ix u_ix (pv 1) pe_int (fun _ _ => rfl)) (pe_lst (pa_cons pe_str (pa_cons pe_str pa_nil))) (by rfl)))))
 (pss_one (ps_ret (pe_tup pa_nil)))
 pss_nil)
 (pss_cons (ps_if (pt_cmpR (u_eq hr.units) (pe_ix u_ix (pv 1) pe_int (fun _ _ => rfl)) pe_str (nomark _))
 (pss_cons (ps_set (i := 2) sc_law_left.nd rfl (by first | exact Or.inl rfl | exact Or.inr rfl) (pe_op u_add (pe_lc (own := [("_law_end", 9)]) (g := (gName 9)) (tt := (tTest (tOp rNotNU (tVar 9) (tC .non)))) rfl sc_law_left.nd (pi_tup (pe_slice sl_tupA (pv 1) (po_some pe_int) po_none)) (blkOk_by (N := ["_law_well_here", "_law_of", "_law_ends", "_law_found", "_law_low", "_law_high", "_law_signs", "_law_at", "_law_word", "_law_end"]) (sc := (defScope s_law_left)) (own := [("_law_end", 9)]) (by decide +kernel)) (fun _ _ _ _ _ => (pg_name (i := 9) sc_law_left.nd rfl (by first | exact Or.inl rfl | exact Or.inr rfl))) (fun _ _ _ _ _ => (pts_one (pt_cmpR u_notN (pv 9) pe_non (nomark _)))) (fun _ _ _ _ _ => (pv 9))) (pe_lst (pa_cons pe_int pa_nil))))
 (pss_cons (ps_set (i := 3) sc_law_left.nd rfl (by first | exact Or.inl rfl | exact Or.inr rfl) (pe_ix u_ix (pv 2) (pe_callC (ok_law_draw T) (hr.mono (by omega)) (by rfl) pass0 (pa_cons (pv 0) (pa_cons (pe_callB u_len (by rfl) T.m_len PySem.boot_len (pa_cons (pv 2) pa_nil)) pa_nil))) (fun _ _ => rfl)))
 (pss_cons (ps_asg (pe_slice sl_tupA (pv 1) (po_some pe_int) po_none) (pg_tup (by rfl) (pgs_cons (pg_name (i := 4) sc_law_left.nd rfl (by first | exact Or.inl rfl | exact Or.inr rfl)) (pgs_cons (pg_name (i := 5) sc_law_left.nd rfl (by first | exact Or.inl rfl | exact Or.inr rfl)) pgs_nil))))
 (pss_one (ps_ret (pe_op u_mulX (pe_tup (pa_cons (pv 3) pa_nil)) (pe_callTy u_int (by rfl) T.m_int (by decide +kernel) (pa_cons (pe_and (pe_or (pe_cmpR u_isN (pv 4) pe_non (nomark _)) (pe_one (pe_cmpR u_le (pv 4) (pv 3) (nomark _)))) (pe_one (pe_or (pe_cmpR u_isN (pv 5) pe_non (nomark _)) (pe_one (pe_cmpR u_le (pv 3) (pv 5) (nomark _)))))) pa_nil))))))))
 pss_nil)
 (pss_cons (ps_set (i := 6) sc_law_left.nd rfl (by first | exact Or.inl rfl | exact Or.inr rfl) (pe_op u_mulX pe_str pe_int))
 (pss_cons (ps_set (i := 7) sc_law_left.nd rfl (by first | exact Or.inl rfl | exact Or.inr rfl) (pe_callC (ok_law_draw T) (hr.mono (by omega)) (by rfl) pass0 (pa_cons (pv 0) (pa_cons pe_int pa_nil))))
 (pss_cons (ps_set (i := 8) sc_law_left.nd rfl (by first | exact Or.inl rfl | exact Or.inr rfl) (pe_slice u_slS (pv 6) (po_some (pv 7)) (po_some (pe_op u_add (pv 7) (pe_callC (ok_law_draw T) (hr.mono (by omega)) (by rfl) pass0 (pa_cons (pv 0) (pa_cons pe_int pa_nil)))))))
 (pss_one (ps_ret (pe_tup (pa_cons (pe_dget1 (hu_of hr) (pe_disp (pps_cons pe_str (pe_cmpR (u_eq hr.units) (pe_op u_mod (pv 7) pe_int) pe_int (nomark _)) (pps_cons pe_str (pe_ifExp (pt_cmpR (u_eq hr.units) (pe_ix u_ix (pv 1) pe_int (fun _ _ => rfl)) pe_str (nomark _)) (pe_slice u_slS (pv 8) po_none (po_some (pe_ix u_ix (pv 1) (pe_un u_neg pe_int) (fun _ _ => rfl)))) pe_str) (pps_cons pe_str (pe_tup pa_nil) pps_nil))) (by rfl) (by rfl) (fun z => by cases z) (by decide)) (pe_ix u_ix (pv 1) pe_int (fun _ _ => rfl)) ⟨rfl, rfl, rfl, rfl⟩) pa_nil)))))))))

theorem sc_law_fields : FnScope ["_law_well_here", "_law_nodes", "_law_some", "_law_found", "_law_numbers", "_law_name", "_law_number_here", "_law_of"] ["_law_well_here", "_law_nodes", "_law_some"] (defScope s_law_fields) := ⟨rfl, rfl, rfl, by decide +kernel, rfl, by decide +kernel, by decide +kernel⟩
theorem ok_law_fields {P : Program} {w : World} {K : PySem.W.Frag} {mg : Str → Option Value} {base : Heap} {C : Addr} (T : Txt K mg C) : Cal P w K mg base CX0 7 "_law_fields" ["_law_well_here", "_law_nodes", "_law_some"] (sp_law_fields K) := by
  refine Cal.of (st := s_law_fields) T.d_law_fields sc_law_fields (fun _ _ _ _ _ _ us hl => match us, hl with | [_, _, _], _ => rfl) (len_law_fields K) fun f cdv A outer s H vs Q E hr h => ⟨t_law_fields K, ?_, p_law_fields K vs H Q E h⟩
  unfold t_law_fields b_law_fields_0 b_law_fields_1
  exact (pss_cons (ps_set (i := 3) sc_law_fields.nd rfl (by first | exact Or.inl rfl | exact Or.inr rfl) (pe_lst pa_nil))
 (pss_cons (ps_set (i := 4) sc_law_fields.nd rfl (by first | exact Or.inl rfl | exact Or.inr rfl) (pe_lst pa_nil))
 (pss_cons (ps_for PassesOwn.never rfl (pi_list (pe_callC (ok_law_names T) (hr.mono (by omega)) (by rfl) pass0 (pa_cons (pv 0) (pa_cons (pe_callC (ok_law_draw T) (hr.mono (by omega)) (by rfl) pass0 (pa_cons (pv 0) (pa_cons pe_int pa_nil))) pa_nil)))) (pg_name (i := 5) sc_law_fields.nd rfl (by first | exact Or.inl rfl | exact Or.inr rfl))
 (pss_cons (ps_set (i := 6) sc_law_fields.nd rfl (by first | exact Or.inl rfl | exact Or.inr rfl) (pe_ix u_ix (pe_lst (pa_cons (pe_op u_add pe_int (pe_callC (ok_law_draw T) (hr.mono (by omega)) (by rfl) pass0 (pa_cons (pv 0) (pa_cons pe_int pa_nil)))) (pa_cons (pe_op u_add pe_int (pe_callC (ok_law_draw T) (hr.mono (by omega)) (by rfl) pass0 (pa_cons (pv 0) (pa_cons pe_int pa_nil)))) (pa_cons pe_int pa_nil)))) (pe_callC (ok_law_draw T) (hr.mono (by omega)) (by rfl) pass0 (pa_cons (pv 0) (pa_cons pe_int pa_nil))) (fun _ _ => rfl)))
 (pss_cons (ps_set (i := 7) sc_law_fields.nd rfl (by first | exact Or.inl rfl | exact Or.inr rfl) (pe_callC (ok_law_sort T 3) (hr.mono (by omega)) (by rfl) pass0 (pa_cons (pv 0) (pa_cons (pv 1) (pa_cons (pv 2) (pa_cons pe_int pa_nil))))))
 (pss_one (ps_if (pt_cmpR u_notIn (pv 6) (pv 4) (by rfl))
 (pss_cons (ps_expr (pe_bm PySem.F.plainAttrs_list PySem.F.slot_list_append PySem.F.type_list_append u_append (pv 3) (pa_cons (pe_op u_add (pe_tup (pa_cons (pv 6) (pa_cons (pv 5) (pa_cons (pv 7) pa_nil)))) (pe_callC (ok_law_left T) (hr.mono (by omega)) (by rfl) pass0 (pa_cons (pv 0) (pa_cons (pv 7) pa_nil)))) pa_nil)))
 (pss_one (ps_expr (pe_bm PySem.F.plainAttrs_list PySem.F.slot_list_append PySem.F.type_list_append u_append (pv 4) (pa_cons (pv 6) pa_nil)))))
 pss_nil)))))
 (pss_one (ps_ret (pv 3))))))

theorem sc_law_cases : FnScope ["_law_well_here", "_law_nodes", "_law_some", "_law_k", "_law_found", "_law_numbers", "_law_name", "_law_number_here", "_law_of", "_law_least"] ["_law_well_here", "_law_nodes", "_law_some", "_law_k"] (defScope s_law_cases) := ⟨rfl, rfl, rfl, by decide +kernel, rfl, by decide +kernel, by decide +kernel⟩
theorem ok_law_cases {P : Program} {w : World} {K : PySem.W.Frag} {mg : Str → Option Value} {base : Heap} {C : Addr} (T : Txt K mg C) : Cal P w K mg base CX0 7 "_law_cases" ["_law_well_here", "_law_nodes", "_law_some", "_law_k"] (sp_law_cases K) := by
  refine Cal.of (st := s_law_cases) T.d_law_cases sc_law_cases (fun _ _ _ _ _ _ us hl => match us, hl with | [_, _, _, _], _ => rfl) (len_law_cases K) fun f cdv A outer s H vs Q E hr h => ⟨t_law_cases K, ?_, p_law_cases K vs H Q E h⟩
  unfold t_law_cases b_law_cases_2 b_law_cases_3 b_law_cases_0 b_law_cases_1
  exact (pss_cons (ps_set (i := 4) sc_law_cases.nd rfl (by first | exact Or.inl rfl | exact Or.inr rfl) (pe_lst pa_nil))
 (pss_cons (ps_set (i := 5) sc_law_cases.nd rfl (by first | exact Or.inl rfl | exact Or.inr rfl) (pe_lst pa_nil))
 (pss_cons (ps_for PassesOwn.never rfl (pi_list (pe_callC (ok_law_names T) (hr.mono (by omega)) (by rfl) pass0 (pa_cons (pv 0) (pa_cons (pe_op u_add pe_int (pe_callC (ok_law_draw T) (hr.mono (by omega)) (by rfl) pass0 (pa_cons (pv 0) (pa_cons pe_int pa_nil)))) pa_nil)))) (pg_name (i := 6) sc_law_cases.nd rfl (by first | exact Or.inl rfl | exact Or.inr rfl))
 (pss_cons (ps_set (i := 7) sc_law_cases.nd rfl (by first | exact Or.inl rfl | exact Or.inr rfl) (pe_ix u_ix (pe_lst (pa_cons (pe_callC (ok_law_draw T) (hr.mono (by omega)) (by rfl) pass0 (pa_cons (pv 0) (pa_cons pe_int pa_nil))) (pa_cons (pe_callC (ok_law_draw T) (hr.mono (by omega)) (by rfl) pass0 (pa_cons (pv 0) (pa_cons pe_int pa_nil))) pa_nil))) (pe_callC (ok_law_draw T) (hr.mono (by omega)) (by rfl) pass0 (pa_cons (pv 0) (pa_cons pe_int pa_nil))) (fun _ _ => rfl)))
 (pss_cons (ps_set (i := 8) sc_law_cases.nd rfl (by first | exact Or.inl rfl | exact Or.inr rfl) (pe_ix u_ix (pe_lst (pa_cons pe_non (pa_cons (pe_callC (ok_law_sort T 3) (hr.mono (by omega)) (by rfl) pass0 (pa_cons (pv 0) (pa_cons (pv 1) (pa_cons (pv 2) (pa_cons pe_int pa_nil))))) pa_nil))) (pe_callC (ok_law_draw T) (hr.mono (by omega)) (by rfl) pass0 (pa_cons (pv 0) (pa_cons pe_int pa_nil))) (fun _ _ => rfl)))
 (pss_one (ps_if (pt_cmpR u_notIn (pv 7) (pv 5) (by rfl))
 (pss_cons (ps_expr (pe_bm PySem.F.plainAttrs_list PySem.F.slot_list_append PySem.F.type_list_append u_append (pv 4) (pa_cons (pe_tup (pa_cons (pv 7) (pa_cons (pv 6) (pa_cons (pe_ix u_ix (pe_lst (pa_cons (pv 8) (pa_cons pe_non pa_nil))) (pe_callTy u_int (by rfl) T.m_int (by decide +kernel) (pa_cons (pe_cmpR (u_eq hr.units) (pv 7) pe_int (nomark _)) pa_nil)) (fun _ _ => rfl)) pa_nil)))) pa_nil)))
 (pss_one (ps_expr (pe_bm PySem.F.plainAttrs_list PySem.F.slot_list_append PySem.F.type_list_append u_append (pv 5) (pa_cons (pv 7) pa_nil)))))
 pss_nil)))))
 (pss_cons (ps_set (i := 9) sc_law_cases.nd rfl (by first | exact Or.inl rfl | exact Or.inr rfl) (pe_bm PySem.F.plainAttrs_list PySem.F.slot_list_index PySem.F.type_list_index mt_index (pv 5) (pa_cons (pe_callB (cr_min rfl) (by rfl) T.m_min (by decide +kernel) (pa_cons (pv 5) pa_nil)) pa_nil)))
 (pss_cons (ps_asg (pe_ix u_ix (pv 4) (pv 9) (fun _ _ => rfl)) (pg_tup (by rfl) (pgs_cons (pg_name (i := 7) sc_law_cases.nd rfl (by first | exact Or.inl rfl | exact Or.inr rfl)) (pgs_cons (pg_name (i := 6) sc_law_cases.nd rfl (by first | exact Or.inl rfl | exact Or.inr rfl)) (pgs_cons (pg_name (i := 8) sc_law_cases.nd rfl (by first | exact Or.inl rfl | exact Or.inr rfl)) pgs_nil)))))
 (pss_cons (ps_if (PW.pt (pw_and (pt_cmpR u_notN (pv 8) pe_non (nomark _)) (pw_and (pt_cmpR (u_eq hr.units) (pe_ix u_ix (pv 8) pe_int (fun _ _ => rfl)) pe_str (nomark _)) (pw_and1 (pt_cmpR u_le (pe_bm PySem.F.plainAttrs_list PySem.F.slot_list_index PySem.F.type_list_index mt_index (pv 2) (pa_cons (pe_ix u_ix (pv 8) pe_int (fun _ _ => rfl)) pa_nil)) (pv 3) (nomark _))))))
 (pss_one (ps_asg (pe_tup (pa_cons (pv 7) (pa_cons (pv 6) (pa_cons (pe_tup (pa_cons pe_str pa_nil)) pa_nil)))) (pg_sub (pv 4) (pv 9) u_set)))
 pss_nil)
 (pss_one (ps_ret (pv 4)))))))))

theorem sc_law_parts : FnScope ["_law_well_here", "_law_nodes", "_law_some", "_law_boxes", "_law_picks", "_law_name", "_law_k"] ["_law_well_here"] (defScope s_law_parts) := ⟨rfl, rfl, rfl, by decide +kernel, rfl, by decide +kernel, by decide +kernel⟩
theorem ok_law_parts {P : Program} {w : World} {K : PySem.W.Frag} {mg : Str → Option Value} {base : Heap} {C : Addr} (T : Txt K mg C) : Cal P w K mg base CX0 8 "_law_parts" ["_law_well_here"] (sp_law_parts K) := by
  refine Cal.of (st := s_law_parts) T.d_law_parts sc_law_parts (fun _ _ _ _ _ _ us hl => match us, hl with | [_], _ => rfl) (len_law_parts K) fun f cdv A outer s H vs Q E hr h => ⟨t_law_parts K, ?_, p_law_parts K vs H Q E h⟩
  unfold t_law_parts b_law_parts_0 b_law_parts_1 b_law_parts_2
  exact (pss_cons (ps_set (i := 1) sc_law_parts.nd rfl (by first | exact Or.inl rfl | exact Or.inr rfl) (pe_callC (ok_law_names T) (hr.mono (by omega)) (by rfl) pass0 (pa_cons (pv 0) (pa_cons (pe_callC (ok_law_draw T) (hr.mono (by omega)) (by rfl) pass0 (pa_cons (pv 0) (pa_cons pe_int pa_nil))) pa_nil))))
 (pss_cons (ps_set (i := 2) sc_law_parts.nd rfl (by first | exact Or.inl rfl | exact Or.inr rfl) (pe_callC (ok_law_names T) (hr.mono (by omega)) (by rfl) pass0 (pa_cons (pv 0) (pa_cons (pe_callC (ok_law_draw T) (hr.mono (by omega)) (by rfl) pass0 (pa_cons (pv 0) (pa_cons pe_int pa_nil))) pa_nil))))
 (pss_cons (ps_set (i := 3) sc_law_parts.nd rfl (by first | exact Or.inl rfl | exact Or.inr rfl) (pe_callTy (u_dict rfl) (by rfl) T.m_dict (by decide +kernel) (pa_cons (pe_lc (own := [("_law_name", 5)]) (g := (gName 5)) (tt := tYes) rfl sc_law_parts.nd (pi_list (pv 1)) (blkOk_by (N := ["_law_well_here", "_law_nodes", "_law_some", "_law_boxes", "_law_picks", "_law_name", "_law_k"]) (sc := (defScope s_law_parts)) (own := [("_law_name", 5)]) (by decide +kernel)) (fun _ _ _ _ _ => (pg_name (i := 5) sc_law_parts.nd rfl (by first | exact Or.inl rfl | exact Or.inr rfl))) (fun _ _ _ _ _ => pts_nil) (fun _ _ _ _ _ => (pe_tup (pa_cons (pv 5) (pa_cons (pe_callC (ok_law_fields T) (hr.mono (by omega)) (by rfl) pass0 (pa_cons (pv 0) (pa_cons (pv 1) (pa_cons (pv 2) pa_nil)))) pa_nil))))) pa_nil)))
 (pss_cons (ps_set (i := 4) sc_law_parts.nd rfl (by first | exact Or.inl rfl | exact Or.inr rfl) (pe_callTy (u_dict rfl) (by rfl) T.m_dict (by decide +kernel) (pa_cons (pe_lc (own := [("_law_k", 6)]) (g := (gName 6)) (tt := tYes) rfl sc_law_parts.nd (pi_range1 (by rfl) T.m_range (pa_cons (pe_callB u_len (by rfl) T.m_len PySem.boot_len (pa_cons (pv 2) pa_nil)) pa_nil)) (blkOk_by (N := ["_law_well_here", "_law_nodes", "_law_some", "_law_boxes", "_law_picks", "_law_name", "_law_k"]) (sc := (defScope s_law_parts)) (own := [("_law_k", 6)]) (by decide +kernel)) (fun _ _ _ _ _ => (pg_name (i := 6) sc_law_parts.nd rfl (by first | exact Or.inl rfl | exact Or.inr rfl))) (fun _ _ _ _ _ => pts_nil) (fun _ _ _ _ _ => (pe_tup (pa_cons (pe_ix u_ix (pv 2) (pv 6) (fun _ _ => rfl)) (pa_cons (pe_callC (ok_law_cases T) (hr.mono (by omega)) (by rfl) pass0 (pa_cons (pv 0) (pa_cons (pv 1) (pa_cons (pv 2) (pa_cons (pv 6) pa_nil))))) pa_nil))))) pa_nil)))
 (pss_one (ps_ret (pe_tup (pa_cons (pv 3) (pa_cons (pv 4) (pa_cons (pe_callC (ok_law_sort T 3) (hr.mono (by omega)) (by rfl) pass0 (pa_cons (pv 0) (pa_cons (pv 1) (pa_cons (pv 2) (pa_cons pe_int pa_nil))))) pa_nil))))))))))

theorem sc_law_formed : FnScope ["_law_well_here", "_law_table", "_law_name", "_law_row"] ["_law_well_here", "_law_table"] (defScope s_law_formed) := ⟨rfl, rfl, rfl, by decide +kernel, rfl, by decide +kernel, by decide +kernel⟩
theorem ok_law_formed {P : Program} {w : World} {K : PySem.W.Frag} {mg : Str → Option Value} {base : Heap} {C : Addr} (T : Txt K mg C) : Cal P w K mg base CX0 2 "_law_formed" ["_law_well_here", "_law_table"] (sp_law_formed K) := by
  refine Cal.of (st := s_law_formed) T.d_law_formed sc_law_formed (fun _ _ _ _ _ _ us hl => match us, hl with | [_, _], _ => rfl) (len_law_formed K) fun f cdv A outer s H vs Q E hr h => ⟨t_law_formed K, ?_, p_law_formed K vs H Q E h⟩
  exact (pss_one (ps_ret (pe_callTy (u_dict rfl) (by rfl) T.m_dict (by decide +kernel) (pa_cons (pe_lock (pe_lc (own := [("_law_name", 2), ("_law_row", 3)]) (g := (gTup K 2 (gCons (gName 2) (gCons (gName 3) gNil)))) (tt := tYes) rfl sc_law_formed.nd (pi_items (pv 1)) (blkOk_by (N := ["_law_well_here", "_law_table", "_law_name", "_law_row"]) (sc := (defScope s_law_formed)) (own := [("_law_name", 2), ("_law_row", 3)]) (by decide +kernel)) (fun _ _ _ _ _ => (pg_tup (by rfl) (pgs_cons (pg_name (i := 2) sc_law_formed.nd rfl (by first | exact Or.inl rfl | exact Or.inr rfl)) (pgs_cons (pg_name (i := 3) sc_law_formed.nd rfl (by first | exact Or.inl rfl | exact Or.inr rfl)) pgs_nil)))) (fun _ _ _ _ _ => pts_nil) (fun _ _ _ _ _ => (pe_tup (pa_cons (pv 2) (pa_cons (pe_ix u_ix (pe_lst (pa_cons (pe_callTy u_list (by rfl) T.m_list (by decide +kernel) (pa_cons (pv 3) pa_nil)) (pa_cons (pe_callTy u_tuple (by rfl) T.m_tuple (by decide +kernel) (pa_cons (pv 3) pa_nil)) pa_nil))) (pe_callC (ok_law_draw T) (hr.mono (by omega)) (by rfl) pass0 (pa_cons (pv 0) (pa_cons pe_int pa_nil))) (fun _ _ => rfl)) pa_nil)))))) pa_nil))))

theorem sc_law_copied : FnScope ["_law_handed", "_law_table", "_law_name", "_law_row"] ["_law_handed"] (defScope s_law_copied) := ⟨rfl, rfl, rfl, by decide +kernel, rfl, by decide +kernel, by decide +kernel⟩
theorem ok_law_copied {P : Program} {w : World} {K : PySem.W.Frag} {mg : Str → Option Value} {base : Heap} {C : Addr} (T : Txt K mg C) : Cal P w K mg base CX0 1 "_law_copied" ["_law_handed"] (sp_law_copied K) := by
  refine Cal.of (st := s_law_copied) T.d_law_copied sc_law_copied (fun _ _ _ _ _ _ us hl => match us, hl with | [_], _ => rfl) (len_law_copied K) fun f cdv A outer s H vs Q E hr h => ⟨t_law_copied K, ?_, p_law_copied K vs H Q E h⟩
  exact (pss_one (ps_ret (pe_lc (own := [("_law_table", 1)]) (g := (gName 1)) (tt := tYes) rfl sc_law_copied.nd (pi_list (pv 0)) (blkOk_by (N := ["_law_handed", "_law_table", "_law_name", "_law_row"]) (sc := (defScope s_law_copied)) (own := [("_law_table", 1)]) (by decide +kernel)) (fun _ _ _ _ _ => (pg_name (i := 1) sc_law_copied.nd rfl (by first | exact Or.inl rfl | exact Or.inr rfl))) (fun _ _ _ _ _ => pts_nil) (fun _ _ _ _ _ => (pe_lock (pe_lc (own := [("_law_name", 2), ("_law_row", 3)]) (g := (gTup K 2 (gCons (gName 2) (gCons (gName 3) gNil)))) (tt := tYes) rfl sc_law_copied.nd (pi_items (pv 1)) (blkOk_in (N := ["_law_handed", "_law_table", "_law_name", "_law_row"]) (own := [("_law_name", 2), ("_law_row", 3)]) (by decide +kernel)) (fun _ _ _ _ _ => (pg_tup (by rfl) (pgs_cons (pg_name (i := 2) sc_law_copied.nd rfl (by first | exact Or.inl rfl | exact Or.inr rfl)) (pgs_cons (pg_name (i := 3) sc_law_copied.nd rfl (by first | exact Or.inl rfl | exact Or.inr rfl)) pgs_nil)))) (fun _ _ _ _ _ => pts_nil) (fun _ _ _ _ _ => (pe_tup (pa_cons (pv 2) (pa_cons (pe_callB u_isi (by rfl) T.m_isinstance (by decide +kernel) (pa_cons (pv 3) (pa_cons (pe_bltn (v := .ty "list") (by rfl) T.m_list (by decide +kernel) rfl) pa_nil))) (pa_cons (pe_callTy u_list (by rfl) T.m_list (by decide +kernel) (pa_cons (pv 3) pa_nil)) pa_nil)))))))))))

theorem sc_law_sorted : FnScope ["_law_table", "_law_name", "_law_row"] ["_law_table"] (defScope s_law_sorted) := ⟨rfl, rfl, rfl, by decide +kernel, rfl, by decide +kernel, by decide +kernel⟩
theorem ok_law_sorted {P : Program} {w : World} {K : PySem.W.Frag} {mg : Str → Option Value} {base : Heap} {C : Addr} {Pt : Tb} (T : Txt K mg C) (B : Tbs K mg base Pt) : Cal P w K mg base CX0 2 "_law_sorted" ["_law_table"] (sp_law_sorted K Pt) := by
  obtain ⟨c, D, TB⟩ := B.e_law_sorted
  refine Cal.ofT D sc_law_sorted (fun _ _ _ _ _ _ us hl => match us, hl with | [_], _ => rfl) (len_law_sorted K Pt) fun f A outer s H vs Q E hr h => ⟨t_law_sorted K Pt, ?_, p_law_sorted K Pt vs H Q E h⟩
  exact (pss_one (ps_ret (pe_callTy (u_dict rfl) (by rfl) T.m_dict (by decide +kernel) (pa_cons (pe_lock (pe_lc (own := [("_law_name", 1), ("_law_row", 2)]) (g := (gTup K 2 (gCons (gName 1) (gCons (gName 2) gNil)))) (tt := tYes) rfl sc_law_sorted.nd (pi_items (pv 0)) (blkOk_by (N := ["_law_table", "_law_name", "_law_row"]) (sc := (defScope s_law_sorted)) (own := [("_law_name", 1), ("_law_row", 2)]) (by decide +kernel)) (fun _ _ _ _ _ => (pg_tup (by rfl) (pgs_cons (pg_name (i := 1) sc_law_sorted.nd rfl (by first | exact Or.inl rfl | exact Or.inr rfl)) (pgs_cons (pg_name (i := 2) sc_law_sorted.nd rfl (by first | exact Or.inl rfl | exact Or.inr rfl)) pgs_nil)))) (fun _ _ _ _ _ => pts_nil) (fun _ _ _ _ _ => (pe_tup (pa_cons (pv 1) (pa_cons (pe_callTy u_tuple (by rfl) T.m_tuple (by decide +kernel) (pa_cons (pe_sortKey (by rfl) T.m_sorted (pv 2) TB rfl rfl (hr.mono (by omega)) (NdefX.nscope_by (by decide +kernel)) (by decide +kernel) rfl rfl (fun _ _ _ _ _ => rfl)) pa_nil)) pa_nil)))))) pa_nil))))

theorem sc_law_right : FnScope ["_law_schema", "_law_parts_here"] ["_law_schema", "_law_parts_here"] (defScope s_law_right) := ⟨rfl, rfl, rfl, by decide +kernel, rfl, by decide +kernel, by decide +kernel⟩
theorem ok_law_right {P : Program} {w : World} {K : PySem.W.Frag} {mg : Str → Option Value} {base : Heap} {C : Addr} {Pt : Tb} (T : Txt K mg C) (B : Tbs K mg base Pt) : Cal P w K mg base CX0 3 "_law_right" ["_law_schema", "_law_parts_here"] (sp_law_right K Pt) := by
  refine Cal.of (st := s_law_right) T.d_law_right sc_law_right (fun _ _ _ _ _ _ us hl => match us, hl with | [_, _], _ => rfl) (len_law_right K Pt) fun f cdv A outer s H vs Q E hr h => ⟨t_law_right K C Pt, ?_, p_law_right K C T.own Pt vs H Q E h⟩
  unfold t_law_right b_law_right_0
  exact (pss_cons (ps_if (PW.pt (pw_or (pt_not (pt_truth (pe_callB u_isi (by rfl) T.m_isinstance (by decide +kernel) (pa_cons (pe_fldU (pv 0) (by rfl)) (pa_cons (pe_bltn (v := .ty "dict") (by rfl) T.m_dict (by decide +kernel) rfl) pa_nil))) (by intro _; rfl))) (pw_or1 (pt_not (pt_truth (pe_callB u_isi (by rfl) T.m_isinstance (by decide +kernel) (pa_cons (pe_fldU (pv 0) (by rfl)) (pa_cons (pe_bltn (v := .ty "dict") (by rfl) T.m_dict (by decide +kernel) rfl) pa_nil))) (by intro _; rfl))))))
 (pss_one (ps_ret pe_bl))
 pss_nil)
 (pss_one (ps_ret (pe_cmpR (u_eqX hr.units) (pe_tup (pa_cons (pe_fldU (pv 0) (by rfl)) (pa_cons (pe_fldU (pv 0) (by rfl)) (pa_cons (pe_fldU (pv 0) (by rfl)) pa_nil)))) (pe_tup (pa_cons (pe_callC (ok_law_sorted T B) (hr.mono (by omega)) (by rfl) pass0 (pa_cons (pe_ix u_ix (pv 1) pe_int (fun _ _ => rfl)) pa_nil)) (pa_cons (pe_callC (ok_law_sorted T B) (hr.mono (by omega)) (by rfl) pass0 (pa_cons (pe_ix u_ix (pv 1) pe_int (fun _ _ => rfl)) pa_nil)) (pa_cons (pe_ix u_ix (pv 1) pe_int (fun _ _ => rfl)) pa_nil)))) (nomark _)))))

theorem sc_law : FnScope ["_law_script", "_law_kept", "_law_cell", "_law_well_here", "_law_parts_here", "_law_handed", "_law_form", "_law_lot", "_law_schema", "_law_table", "_law_row"] ["_law_script"] (defScope s_law) := ⟨rfl, rfl, rfl, by decide +kernel, rfl, by decide +kernel, by decide +kernel⟩
theorem ok_law {P : Program} {w : World} {K : PySem.W.Frag} {mg : Str → Option Value} {base : Heap} {C : Addr} {Pt : Tb} (T : Txt K mg C) (B : Tbs K mg base Pt) : Cal P w K mg base CX0 11 "law" ["_law_script"] (sp_law K Pt) := by
  refine Cal.of (st := s_law) T.d_law sc_law (fun _ _ _ _ _ _ us hl => match us, hl with | [_], _ => rfl) (len_law K Pt) fun f cdv A outer s H vs Q E hr h => ⟨t_law K C Pt, ?_, p_law K C T.own Pt vs H Q E h⟩
  unfold t_law b_law_5 b_law_0 b_law_1 b_law_2 b_law_3 b_law_4
  exact (pss_cons (ps_set (i := 1) sc_law.nd rfl (by first | exact Or.inl rfl | exact Or.inr rfl) (pe_lst pa_nil))
 (pss_cons (ps_for PassesOwn.never rfl (pi_list (pe_op u_add (pe_slice u_slL (pv 0) po_none (po_some pe_int)) (pe_lst (pa_cons pe_int (pa_cons pe_int pa_nil))))) (pg_name (i := 2) sc_law.nd rfl (by first | exact Or.inl rfl | exact Or.inr rfl))
 (pss_cons (ps_set (i := 3) sc_law.nd rfl (by first | exact Or.inl rfl | exact Or.inr rfl) (pe_callC (ok_law_well T) (hr.mono (by omega)) (by rfl) pass0 (pa_cons (pv 2) pa_nil)))
 (pss_cons (ps_set (i := 4) sc_law.nd rfl (by first | exact Or.inl rfl | exact Or.inr rfl) (pe_callC (ok_law_parts T) (hr.mono (by omega)) (by rfl) pass0 (pa_cons (pv 3) pa_nil)))
 (pss_cons (ps_set (i := 5) sc_law.nd rfl (by first | exact Or.inl rfl | exact Or.inr rfl) (pe_lst (pa_cons (pe_callC (ok_law_formed T) (hr.mono (by omega)) (by rfl) pass0 (pa_cons (pv 3) (pa_cons (pe_ix u_ix (pv 4) pe_int (fun _ _ => rfl)) pa_nil))) (pa_cons (pe_callC (ok_law_formed T) (hr.mono (by omega)) (by rfl) pass0 (pa_cons (pv 3) (pa_cons (pe_ix u_ix (pv 4) pe_int (fun _ _ => rfl)) pa_nil))) pa_nil))))
 (pss_cons (ps_set (i := 6) sc_law.nd rfl (by first | exact Or.inl rfl | exact Or.inr rfl) (pe_callC (ok_law_copied T) (hr.mono (by omega)) (by rfl) pass0 (pa_cons (pv 5) pa_nil)))
 (pss_cons (ps_set (i := 7) sc_law.nd rfl (by first | exact Or.inl rfl | exact Or.inr rfl) (pe_callC (ok_law_draw T) (hr.mono (by omega)) (by rfl) pass0 (pa_cons (pv 3) (pa_cons pe_int pa_nil))))
 (pss_cons (ps_if (PW.pt (pw_and (pt_cmpR (u_eqX hr.units) (pe_ix u_ix (pv 4) pe_int (fun _ _ => rfl)) pe_dnewK (nomark _)) (pw_and1 (pt_cmpR (u_eq hr.units) (pv 7) pe_int (nomark _)))))
 (pss_one (ps_set (i := 8) sc_law.nd rfl (by first | exact Or.inl rfl | exact Or.inr rfl) (pe_makeKO (n := 1) (ks := ["root"]) [("choices", .non)] (fun us mv ws => us ++ mv ++ ws) T.mk_Schema T.kc_Schema (ok_Schema___init__ T B) (by simp) (fun q hq => hq) (fun r d z => ((r.append d).append z)) (fun _ _ _ _ _ _ us mv ws h1 h2 h3 => match us, mv, ws, h1, h2, h3 with | [_, _], [_], [_], _, _, _ => ⟨_, _, _, _, _, _, rfl, rfl, rfl⟩) (hr.mono (by omega)) (by rfl) T.g_Schema pass0 (pa_cons (pe_ix u_ix (pv 5) pe_int (fun _ _ => rfl)) pa_nil) (pk_cons (pe_ix u_ix (pv 4) pe_int (fun _ _ => rfl)) pk_nil))))
 (pss_one (ps_if (PW.pt (pw_and (pt_cmpR (u_eqX hr.units) (pe_ix u_ix (pv 4) pe_int (fun _ _ => rfl)) pe_dnewK (nomark _)) (pw_and1 (pt_cmpR (u_eq hr.units) (pv 7) pe_int (nomark _)))))
 (pss_one (ps_set (i := 8) sc_law.nd rfl (by first | exact Or.inl rfl | exact Or.inr rfl) (pe_makeKO0 (ks := ["root", "choices", "kinds"]) [] (fun us mv ws => us ++ ws.reverse) T.mk_Schema T.kc_Schema (ok_Schema___init__ T B) (by simp) (fun q hq => nomatch hq) (fun r d z => (r.append z.reverse)) (fun _ _ _ _ _ _ us mv ws h1 h2 h3 => match us, mv, ws, h1, h2, h3 with | [_], [], [_, _, _], _, _, _ => rfl) (hr.mono (by omega)) (by rfl) T.g_Schema pass0 (pk_cons (pe_ix u_ix (pv 4) pe_int (fun _ _ => rfl)) (pk_cons pe_non (pk_cons (pe_ix u_ix (pv 5) pe_int (fun _ _ => rfl)) pk_nil))))))
 (pss_one (ps_set (i := 8) sc_law.nd rfl (by first | exact Or.inl rfl | exact Or.inr rfl) (pe_makeKO (n := 1) (ks := ["choices", "root"]) [] (fun us mv ws => us ++ ws) T.mk_Schema T.kc_Schema (ok_Schema___init__ T B) (by simp) (fun q hq => nomatch hq) (fun r d z => (r.append z)) (fun _ _ _ _ _ _ us mv ws h1 h2 h3 => match us, mv, ws, h1, h2, h3 with | [_, _], [], [_, _], _, _, _ => rfl) (hr.mono (by omega)) (by rfl) T.g_Schema pass0 (pa_cons (pe_ix u_ix (pv 5) pe_int (fun _ _ => rfl)) pa_nil) (pk_cons (pe_ix u_ix (pv 5) pe_int (fun _ _ => rfl)) (pk_cons (pe_ix u_ix (pv 4) pe_int (fun _ _ => rfl)) pk_nil))))))))
 (pss_cons (ps_if (PW.pt (pw_or (pt_cmpR (u_neX hr.units) (pe_callC (ok_law_copied T) (hr.mono (by omega)) (by rfl) pass0 (pa_cons (pv 5) pa_nil)) (pv 6) (nomark _)) (pw_or1 (pt_not (pt_truth (pe_callC (ok_law_right T B) (hr.mono (by omega)) (by rfl) pass0 (pa_cons (pv 8) (pa_cons (pv 4) pa_nil))) (by intro _; rfl))))))
 (pss_one (ps_ret pe_bl))
 pss_nil)
 (pss_cons (ps_for PassesOwn.never rfl (pi_list (pv 5)) (pg_name (i := 9) sc_law.nd rfl (by first | exact Or.inl rfl | exact Or.inr rfl))
 (pss_cons (ps_lock (ps_for PassesOwn.never rfl (pi_values (pv 9)) (pg_name (i := 10) sc_law.nd rfl (by first | exact Or.inl rfl | exact Or.inr rfl))
 (pss_one (ps_if (pt_truth (pe_callB u_isi (by rfl) T.m_isinstance (by decide +kernel) (pa_cons (pv 10) (pa_cons (pe_bltn (v := .ty "list") (by rfl) T.m_list (by decide +kernel) rfl) pa_nil))) (by intro _; rfl))
 (pss_one (ps_expr (pe_bm PySem.F.plainAttrs_list PySem.F.slot_list_append PySem.F.type_list_append u_append (pv 10) (pa_cons pe_int pa_nil))))
 pss_nil))))
 (pss_one (ps_expr (pe_bm0 PySem.F.plainAttrs_dict PySem.F.slot_dict_clear PySem.F.type_dict_clear mt_dclear (pv 9))))))
 (pss_one (ps_expr (pe_bm PySem.F.plainAttrs_list PySem.F.slot_list_append PySem.F.type_list_append u_append (pv 1) (pa_cons (pe_tup (pa_cons (pv 8) (pa_cons (pv 4) pa_nil))) pa_nil)))))))))))))
 (pss_one (ps_ret (pe_callB (u_all rfl) (by rfl) T.m_all (by decide +kernel) (pa_cons (pe_lc (own := [("_law_schema", 8), ("_law_parts_here", 4)]) (g := (gTup K 2 (gCons (gName 8) (gCons (gName 4) gNil)))) (tt := tYes) rfl sc_law.nd (pi_list (pe_revL (pv 1))) (blkOk_by (N := ["_law_script", "_law_kept", "_law_cell", "_law_well_here", "_law_parts_here", "_law_handed", "_law_form", "_law_lot", "_law_schema", "_law_table", "_law_row"]) (sc := (defScope s_law)) (own := [("_law_schema", 8), ("_law_parts_here", 4)]) (by decide +kernel)) (fun _ _ _ _ _ => (pg_tup (by rfl) (pgs_cons (pg_name (i := 8) sc_law.nd rfl (by first | exact Or.inl rfl | exact Or.inr rfl)) (pgs_cons (pg_name (i := 4) sc_law.nd rfl (by first | exact Or.inl rfl | exact Or.inr rfl)) pgs_nil)))) (fun _ _ _ _ _ => pts_nil) (fun _ _ _ _ _ => (pe_callC (ok_law_right T B) (hr.mono (by omega)) (by rfl) pass0 (pa_cons (pv 8) (pa_cons (pv 4) pa_nil))))) pa_nil))))))

theorem txt_mk {K : PySem.W.Frag} {h : Heap} {mg : Str → Option Value} (X : K.In h) (G : h.Ns mainGlobals mg)
    {C : Addr} {C_Schema : Addr} {f_is_whole : Addr} {od_is_whole an_is_whole : Option Addr} {sl_is_whole : Array (Option Value)} {oc_is_whole kV_is_whole dc_is_whole pm_is_whole cd_is_whole ct_is_whole : Value} {f_is_within : Addr} {od_is_within an_is_within : Option Addr} {sl_is_within : Array (Option Value)} {oc_is_within kV_is_within dc_is_within pm_is_within cd_is_within ct_is_within : Value} {f_is_row : Addr} {od_is_row an_is_row : Option Addr} {sl_is_row : Array (Option Value)} {oc_is_row kV_is_row dc_is_row pm_is_row cd_is_row ct_is_row : Value} {f_left_of : Addr} {od_left_of an_left_of : Option Addr} {sl_left_of : Array (Option Value)} {oc_left_of kV_left_of dc_left_of pm_left_of cd_left_of ct_left_of : Value} {f_is_name : Addr} {od_is_name an_is_name : Option Addr} {sl_is_name : Array (Option Value)} {oc_is_name kV_is_name dc_is_name pm_is_name cd_is_name ct_is_name : Value} {f_is_bounds : Addr} {od_is_bounds an_is_bounds : Option Addr} {sl_is_bounds : Array (Option Value)} {oc_is_bounds kV_is_bounds dc_is_bounds pm_is_bounds cd_is_bounds ct_is_bounds : Value} {f_is_known : Addr} {od_is_known an_is_known : Option Addr} {sl_is_known : Array (Option Value)} {oc_is_known kV_is_known dc_is_known pm_is_known cd_is_known ct_is_known : Value} {f_is_sort D_is_sort : Addr} {od_is_sort an_is_sort od2_is_sort : Option Addr} {sl_is_sort sl2_is_sort : Array (Option Value)} {oc_is_sort kV_is_sort dc_is_sort pm_is_sort cd_is_sort ct_is_sort oc2_is_sort : Value} {n2_is_sort : Nat} {tk_is_sort : Tok} {f_is_default : Addr} {od_is_default an_is_default : Option Addr} {sl_is_default : Array (Option Value)} {oc_is_default kV_is_default dc_is_default pm_is_default cd_is_default ct_is_default : Value} {f_refuse_if : Addr} {od_refuse_if an_refuse_if : Option Addr} {sl_refuse_if : Array (Option Value)} {oc_refuse_if kV_refuse_if dc_refuse_if pm_refuse_if cd_refuse_if ct_refuse_if : Value} {f_look_at_heading : Addr} {od_look_at_heading an_look_at_heading : Option Addr} {sl_look_at_heading : Array (Option Value)} {oc_look_at_heading kV_look_at_heading dc_look_at_heading pm_look_at_heading cd_look_at_heading ct_look_at_heading : Value} {f_look_at_part : Addr} {od_look_at_part an_look_at_part : Option Addr} {sl_look_at_part : Array (Option Value)} {oc_look_at_part kV_look_at_part dc_look_at_part pm_look_at_part cd_look_at_part ct_look_at_part : Value} {f_Schema_comes_back : Addr} {od_Schema_comes_back an_Schema_comes_back : Option Addr} {sl_Schema_comes_back : Array (Option Value)} {oc_Schema_comes_back kV_Schema_comes_back dc_Schema_comes_back pm_Schema_comes_back cd_Schema_comes_back ct_Schema_comes_back : Value} {f_Schema___init__ D_Schema___init__ : Addr} {od_Schema___init__ an_Schema___init__ : Option Addr} {sl_Schema___init__ : Array (Option Value)} {oc_Schema___init__ dc_Schema___init__ pm_Schema___init__ cd_Schema___init__ ct_Schema___init__ : Value} {f_law_well : Addr} {od_law_well an_law_well : Option Addr} {sl_law_well : Array (Option Value)} {oc_law_well kV_law_well dc_law_well pm_law_well cd_law_well ct_law_well : Value} {f_law_draw : Addr} {od_law_draw an_law_draw : Option Addr} {sl_law_draw : Array (Option Value)} {oc_law_draw kV_law_draw dc_law_draw pm_law_draw cd_law_draw ct_law_draw : Value} {f_law_names : Addr} {od_law_names an_law_names : Option Addr} {sl_law_names : Array (Option Value)} {oc_law_names kV_law_names dc_law_names pm_law_names cd_law_names ct_law_names : Value} {f_law_number : Addr} {od_law_number an_law_number : Option Addr} {sl_law_number : Array (Option Value)} {oc_law_number kV_law_number dc_law_number pm_law_number cd_law_number ct_law_number : Value} {f_law_sort : Addr} {od_law_sort an_law_sort : Option Addr} {sl_law_sort : Array (Option Value)} {oc_law_sort kV_law_sort dc_law_sort pm_law_sort cd_law_sort ct_law_sort : Value} {f_law_left : Addr} {od_law_left an_law_left : Option Addr} {sl_law_left : Array (Option Value)} {oc_law_left kV_law_left dc_law_left pm_law_left cd_law_left ct_law_left : Value} {f_law_fields : Addr} {od_law_fields an_law_fields : Option Addr} {sl_law_fields : Array (Option Value)} {oc_law_fields kV_law_fields dc_law_fields pm_law_fields cd_law_fields ct_law_fields : Value} {f_law_cases : Addr} {od_law_cases an_law_cases : Option Addr} {sl_law_cases : Array (Option Value)} {oc_law_cases kV_law_cases dc_law_cases pm_law_cases cd_law_cases ct_law_cases : Value} {f_law_parts : Addr} {od_law_parts an_law_parts : Option Addr} {sl_law_parts : Array (Option Value)} {oc_law_parts kV_law_parts dc_law_parts pm_law_parts cd_law_parts ct_law_parts : Value} {f_law_formed : Addr} {od_law_formed an_law_formed : Option Addr} {sl_law_formed : Array (Option Value)} {oc_law_formed kV_law_formed dc_law_formed pm_law_formed cd_law_formed ct_law_formed : Value} {f_law_copied : Addr} {od_law_copied an_law_copied : Option Addr} {sl_law_copied : Array (Option Value)} {oc_law_copied kV_law_copied dc_law_copied pm_law_copied cd_law_copied ct_law_copied : Value} {f_law_right : Addr} {od_law_right an_law_right : Option Addr} {sl_law_right : Array (Option Value)} {oc_law_right kV_law_right dc_law_right pm_law_right cd_law_right ct_law_right : Value} {f_law : Addr} {od_law an_law : Option Addr} {sl_law : Array (Option Value)} {oc_law kV_law dc_law pm_law cd_law ct_law : Value}
    (z_abs : PySem.W.nsIn K mainGlobals "abs" = some none) (z_all : PySem.W.nsIn K mainGlobals "all" = some none) (z_bool : PySem.W.nsIn K mainGlobals "bool" = some none) (z_dict : PySem.W.nsIn K mainGlobals "dict" = some none) (z_enumerate : PySem.W.nsIn K mainGlobals "enumerate" = some none) (z_int : PySem.W.nsIn K mainGlobals "int" = some none) (z_isinstance : PySem.W.nsIn K mainGlobals "isinstance" = some none) (z_len : PySem.W.nsIn K mainGlobals "len" = some none) (z_list : PySem.W.nsIn K mainGlobals "list" = some none) (z_min : PySem.W.nsIn K mainGlobals "min" = some none) (z_range : PySem.W.nsIn K mainGlobals "range" = some none) (z_sorted : PySem.W.nsIn K mainGlobals "sorted" = some none) (z_str : PySem.W.nsIn K mainGlobals "str" = some none) (z_tuple : PySem.W.nsIn K mainGlobals "tuple" = some none) {k_GREATEST : Tok} (y_GREATEST : PySem.W.nsIn K mainGlobals "GREATEST" = some (some (.int 999999999999999999999999999999999999999999999999999999999999 k_GREATEST))) {k_LETTERS : Tok} (y_LETTERS : PySem.W.nsIn K mainGlobals "LETTERS" = some (some (.str (PySem.Str.ofString "abcdefghijklmnopqrstuvwxyz") k_LETTERS))) {k_MOST_SIGNS : Tok} (y_MOST_SIGNS : PySem.W.nsIn K mainGlobals "MOST_SIGNS" = some (some (.int 8 k_MOST_SIGNS))) {k_MOST_NUMBER : Tok} (y_MOST_NUMBER : PySem.W.nsIn K mainGlobals "MOST_NUMBER" = some (some (.int 99 k_MOST_NUMBER))) {k_MOST_TEXT : Tok} (y_MOST_TEXT : PySem.W.nsIn K mainGlobals "MOST_TEXT" = some (some (.int 40 k_MOST_TEXT))) {k_MOST_ROW : Tok} (y_MOST_ROW : PySem.W.nsIn K mainGlobals "MOST_ROW" = some (some (.int 20 k_MOST_ROW))) {k_MOST_DEEP : Tok} (y_MOST_DEEP : PySem.W.nsIn K mainGlobals "MOST_DEEP" = some (some (.int 3 k_MOST_DEEP))) (at_Schema : PySem.W.nsIn K mainGlobals "Schema" = some (some (.ref C_Schema))) (pg_Schema : PySem.W.plainGet K C_Schema Str.empty = true) (hd_Schema : PySem.W.hasDictIn K C_Schema = true) (po_Schema : PySem.W.plainOver K C_Schema = true) (sa_Schema : PySem.W.findIn K (.ref C_Schema) "__setattr__" = some (some (.builtin "object.__setattr__"))) (no_kinds_Schema : PySem.W.findIn K (.ref C_Schema) "kinds" = some none) (no_choices_Schema : PySem.W.findIn K (.ref C_Schema) "choices" = some none) (no_root_Schema : PySem.W.findIn K (.ref C_Schema) "root" = some none) (mk_Schema : PySem.W.makesIn K C_Schema = true) (kc_Schema : PySem.W.keepIn K (.ref C_Schema) = true) (mr_Schema : PySem.W.mroIn K C_Schema (.type "object") = some true) (eq_Schema : PySem.W.findIn K (.ref C_Schema) "__eq__" = some (some (.builtin "object.__eq__"))) (ha_Schema : PySem.W.findIn K (.ref C_Schema) "__class__" = some (some (.builtin "object.__class__"))) (hn_Schema : PySem.W.specialIn K (.builtin "object.__class__") "__get__" = some (some (.builtin "getset_descriptor.__get__"))) (ht_Schema : PySem.W.takesIn K (.builtin "object.__class__") = some true) (kb_Schema : PySem.W.kitOne K (.ref C_Schema) (.type "bool") = some false) (a_is_whole : PySem.W.nsIn K mainGlobals "is_whole" = some (some (.ref f_is_whole))) (l_is_whole : K.lookup f_is_whole = some ⟨oc_is_whole, od_is_whole, .func (PySem.W.fnOf "is_whole" "is_whole" (defArgs s_is_whole) (defBody s_is_whole) (defScope s_is_whole) .none kV_is_whole dc_is_whole pm_is_whole an_is_whole cd_is_whole ct_is_whole), sl_is_whole⟩) (q_is_whole : PySem.W.codeIn K cd_is_whole "is_whole" = true) (k_is_whole : PySem.W.keepIn K (.ref f_is_whole) = true) (a_is_within : PySem.W.nsIn K mainGlobals "is_within" = some (some (.ref f_is_within))) (l_is_within : K.lookup f_is_within = some ⟨oc_is_within, od_is_within, .func (PySem.W.fnOf "is_within" "is_within" (defArgs s_is_within) (defBody s_is_within) (defScope s_is_within) .none kV_is_within dc_is_within pm_is_within an_is_within cd_is_within ct_is_within), sl_is_within⟩) (q_is_within : PySem.W.codeIn K cd_is_within "is_within" = true) (k_is_within : PySem.W.keepIn K (.ref f_is_within) = true) (a_is_row : PySem.W.nsIn K mainGlobals "is_row" = some (some (.ref f_is_row))) (l_is_row : K.lookup f_is_row = some ⟨oc_is_row, od_is_row, .func (PySem.W.fnOf "is_row" "is_row" (defArgs s_is_row) (defBody s_is_row) (defScope s_is_row) .none kV_is_row dc_is_row pm_is_row an_is_row cd_is_row ct_is_row), sl_is_row⟩) (q_is_row : PySem.W.codeIn K cd_is_row "is_row" = true) (k_is_row : PySem.W.keepIn K (.ref f_is_row) = true) (a_left_of : PySem.W.nsIn K mainGlobals "left_of" = some (some (.ref f_left_of))) (l_left_of : K.lookup f_left_of = some ⟨oc_left_of, od_left_of, .func (PySem.W.fnOf "left_of" "left_of" (defArgs s_left_of) (defBody s_left_of) (defScope s_left_of) .none kV_left_of dc_left_of pm_left_of an_left_of cd_left_of ct_left_of), sl_left_of⟩) (q_left_of : PySem.W.codeIn K cd_left_of "left_of" = true) (k_left_of : PySem.W.keepIn K (.ref f_left_of) = true) (a_is_name : PySem.W.nsIn K mainGlobals "is_name" = some (some (.ref f_is_name))) (l_is_name : K.lookup f_is_name = some ⟨oc_is_name, od_is_name, .func (PySem.W.fnOf "is_name" "is_name" (defArgs s_is_name) (defBody s_is_name) (defScope s_is_name) .none kV_is_name dc_is_name pm_is_name an_is_name cd_is_name ct_is_name), sl_is_name⟩) (q_is_name : PySem.W.codeIn K cd_is_name "is_name" = true) (k_is_name : PySem.W.keepIn K (.ref f_is_name) = true) (a_is_bounds : PySem.W.nsIn K mainGlobals "is_bounds" = some (some (.ref f_is_bounds))) (l_is_bounds : K.lookup f_is_bounds = some ⟨oc_is_bounds, od_is_bounds, .func (PySem.W.fnOf "is_bounds" "is_bounds" (defArgs s_is_bounds) (defBody s_is_bounds) (defScope s_is_bounds) .none kV_is_bounds dc_is_bounds pm_is_bounds an_is_bounds cd_is_bounds ct_is_bounds), sl_is_bounds⟩) (q_is_bounds : PySem.W.codeIn K cd_is_bounds "is_bounds" = true) (k_is_bounds : PySem.W.keepIn K (.ref f_is_bounds) = true) (a_is_known : PySem.W.nsIn K mainGlobals "is_known" = some (some (.ref f_is_known))) (l_is_known : K.lookup f_is_known = some ⟨oc_is_known, od_is_known, .func (PySem.W.fnOf "is_known" "is_known" (defArgs s_is_known) (defBody s_is_known) (defScope s_is_known) .none kV_is_known dc_is_known pm_is_known an_is_known cd_is_known ct_is_known), sl_is_known⟩) (q_is_known : PySem.W.codeIn K cd_is_known "is_known" = true) (k_is_known : PySem.W.keepIn K (.ref f_is_known) = true) (a_is_sort : PySem.W.nsIn K mainGlobals "is_sort" = some (some (.ref f_is_sort))) (l_is_sort : K.lookup f_is_sort = some ⟨oc_is_sort, od_is_sort, .func (PySem.W.fnOf "is_sort" "is_sort" (defArgs s_is_sort) (defBody s_is_sort) (defScope s_is_sort) (.ref D_is_sort) kV_is_sort dc_is_sort pm_is_sort an_is_sort cd_is_sort ct_is_sort), sl_is_sort⟩) (q_is_sort : PySem.W.codeIn K cd_is_sort "is_sort" = true) (k_is_sort : PySem.W.keepIn K (.ref f_is_sort) = true) (t_is_sort : K.lookup D_is_sort = some ⟨oc2_is_sort, od2_is_sort, .seq #[.int 0 tk_is_sort] n2_is_sort, sl2_is_sort⟩) (a_is_default : PySem.W.nsIn K mainGlobals "is_default" = some (some (.ref f_is_default))) (l_is_default : K.lookup f_is_default = some ⟨oc_is_default, od_is_default, .func (PySem.W.fnOf "is_default" "is_default" (defArgs s_is_default) (defBody s_is_default) (defScope s_is_default) .none kV_is_default dc_is_default pm_is_default an_is_default cd_is_default ct_is_default), sl_is_default⟩) (q_is_default : PySem.W.codeIn K cd_is_default "is_default" = true) (k_is_default : PySem.W.keepIn K (.ref f_is_default) = true) (a_refuse_if : PySem.W.nsIn K mainGlobals "refuse_if" = some (some (.ref f_refuse_if))) (l_refuse_if : K.lookup f_refuse_if = some ⟨oc_refuse_if, od_refuse_if, .func (PySem.W.fnOf "refuse_if" "refuse_if" (defArgs s_refuse_if) (defBody s_refuse_if) (defScope s_refuse_if) .none kV_refuse_if dc_refuse_if pm_refuse_if an_refuse_if cd_refuse_if ct_refuse_if), sl_refuse_if⟩) (q_refuse_if : PySem.W.codeIn K cd_refuse_if "refuse_if" = true) (k_refuse_if : PySem.W.keepIn K (.ref f_refuse_if) = true) (a_look_at_heading : PySem.W.nsIn K mainGlobals "look_at_heading" = some (some (.ref f_look_at_heading))) (l_look_at_heading : K.lookup f_look_at_heading = some ⟨oc_look_at_heading, od_look_at_heading, .func (PySem.W.fnOf "look_at_heading" "look_at_heading" (defArgs s_look_at_heading) (defBody s_look_at_heading) (defScope s_look_at_heading) .none kV_look_at_heading dc_look_at_heading pm_look_at_heading an_look_at_heading cd_look_at_heading ct_look_at_heading), sl_look_at_heading⟩) (q_look_at_heading : PySem.W.codeIn K cd_look_at_heading "look_at_heading" = true) (k_look_at_heading : PySem.W.keepIn K (.ref f_look_at_heading) = true) (a_look_at_part : PySem.W.nsIn K mainGlobals "look_at_part" = some (some (.ref f_look_at_part))) (l_look_at_part : K.lookup f_look_at_part = some ⟨oc_look_at_part, od_look_at_part, .func (PySem.W.fnOf "look_at_part" "look_at_part" (defArgs s_look_at_part) (defBody s_look_at_part) (defScope s_look_at_part) .none kV_look_at_part dc_look_at_part pm_look_at_part an_look_at_part cd_look_at_part ct_look_at_part), sl_look_at_part⟩) (q_look_at_part : PySem.W.codeIn K cd_look_at_part "look_at_part" = true) (k_look_at_part : PySem.W.keepIn K (.ref f_look_at_part) = true) (a_Schema_comes_back : PySem.W.findIn K (.ref C_Schema) "comes_back" = some (some (.ref f_Schema_comes_back))) (i_Schema_comes_back : PySem.W.isFn K (.ref f_Schema_comes_back) = true) (l_Schema_comes_back : K.lookup f_Schema_comes_back = some ⟨oc_Schema_comes_back, od_Schema_comes_back, .func (PySem.W.fnOf "comes_back" "Schema.comes_back" (defArgs s_Schema_comes_back) (defBody s_Schema_comes_back) (defScope s_Schema_comes_back) .none kV_Schema_comes_back dc_Schema_comes_back pm_Schema_comes_back an_Schema_comes_back cd_Schema_comes_back ct_Schema_comes_back), sl_Schema_comes_back⟩) (q_Schema_comes_back : PySem.W.codeIn K cd_Schema_comes_back "Schema.comes_back" = true) (k_Schema_comes_back : PySem.W.keepIn K (.ref f_Schema_comes_back) = true) (a_Schema___init__ : PySem.W.findIn K (.ref C_Schema) "__init__" = some (some (.ref f_Schema___init__))) (i_Schema___init__ : PySem.W.isFn K (.ref f_Schema___init__) = true) (l_Schema___init__ : K.lookup f_Schema___init__ = some ⟨oc_Schema___init__, od_Schema___init__, .func (PySem.W.fnOf "__init__" "Schema.__init__" (defArgs s_Schema___init__) (defBody s_Schema___init__) (defScope s_Schema___init__) .none (.ref D_Schema___init__) dc_Schema___init__ pm_Schema___init__ an_Schema___init__ cd_Schema___init__ ct_Schema___init__), sl_Schema___init__⟩) (q_Schema___init__ : PySem.W.codeIn K cd_Schema___init__ "Schema.__init__" = true) (k_Schema___init__ : PySem.W.keepIn K (.ref f_Schema___init__) = true) (d_Schema___init__ : PySem.W.nsIn K D_Schema___init__ "choices" = some (some .none)) (a_law_well : PySem.W.nsIn K mainGlobals "_law_well" = some (some (.ref f_law_well))) (l_law_well : K.lookup f_law_well = some ⟨oc_law_well, od_law_well, .func (PySem.W.fnOf "_law_well" "_law_well" (defArgs s_law_well) (defBody s_law_well) (defScope s_law_well) .none kV_law_well dc_law_well pm_law_well an_law_well cd_law_well ct_law_well), sl_law_well⟩) (q_law_well : PySem.W.codeIn K cd_law_well "_law_well" = true) (k_law_well : PySem.W.keepIn K (.ref f_law_well) = true) (a_law_draw : PySem.W.nsIn K mainGlobals "_law_draw" = some (some (.ref f_law_draw))) (l_law_draw : K.lookup f_law_draw = some ⟨oc_law_draw, od_law_draw, .func (PySem.W.fnOf "_law_draw" "_law_draw" (defArgs s_law_draw) (defBody s_law_draw) (defScope s_law_draw) .none kV_law_draw dc_law_draw pm_law_draw an_law_draw cd_law_draw ct_law_draw), sl_law_draw⟩) (q_law_draw : PySem.W.codeIn K cd_law_draw "_law_draw" = true) (k_law_draw : PySem.W.keepIn K (.ref f_law_draw) = true) (a_law_names : PySem.W.nsIn K mainGlobals "_law_names" = some (some (.ref f_law_names))) (l_law_names : K.lookup f_law_names = some ⟨oc_law_names, od_law_names, .func (PySem.W.fnOf "_law_names" "_law_names" (defArgs s_law_names) (defBody s_law_names) (defScope s_law_names) .none kV_law_names dc_law_names pm_law_names an_law_names cd_law_names ct_law_names), sl_law_names⟩) (q_law_names : PySem.W.codeIn K cd_law_names "_law_names" = true) (k_law_names : PySem.W.keepIn K (.ref f_law_names) = true) (a_law_number : PySem.W.nsIn K mainGlobals "_law_number" = some (some (.ref f_law_number))) (l_law_number : K.lookup f_law_number = some ⟨oc_law_number, od_law_number, .func (PySem.W.fnOf "_law_number" "_law_number" (defArgs s_law_number) (defBody s_law_number) (defScope s_law_number) .none kV_law_number dc_law_number pm_law_number an_law_number cd_law_number ct_law_number), sl_law_number⟩) (q_law_number : PySem.W.codeIn K cd_law_number "_law_number" = true) (k_law_number : PySem.W.keepIn K (.ref f_law_number) = true) (a_law_sort : PySem.W.nsIn K mainGlobals "_law_sort" = some (some (.ref f_law_sort))) (l_law_sort : K.lookup f_law_sort = some ⟨oc_law_sort, od_law_sort, .func (PySem.W.fnOf "_law_sort" "_law_sort" (defArgs s_law_sort) (defBody s_law_sort) (defScope s_law_sort) .none kV_law_sort dc_law_sort pm_law_sort an_law_sort cd_law_sort ct_law_sort), sl_law_sort⟩) (q_law_sort : PySem.W.codeIn K cd_law_sort "_law_sort" = true) (k_law_sort : PySem.W.keepIn K (.ref f_law_sort) = true) (a_law_left : PySem.W.nsIn K mainGlobals "_law_left" = some (some (.ref f_law_left))) (l_law_left : K.lookup f_law_left = some ⟨oc_law_left, od_law_left, .func (PySem.W.fnOf "_law_left" "_law_left" (defArgs s_law_left) (defBody s_law_left) (defScope s_law_left) .none kV_law_left dc_law_left pm_law_left an_law_left cd_law_left ct_law_left), sl_law_left⟩) (q_law_left : PySem.W.codeIn K cd_law_left "_law_left" = true) (k_law_left : PySem.W.keepIn K (.ref f_law_left) = true) (a_law_fields : PySem.W.nsIn K mainGlobals "_law_fields" = some (some (.ref f_law_fields))) (l_law_fields : K.lookup f_law_fields = some ⟨oc_law_fields, od_law_fields, .func (PySem.W.fnOf "_law_fields" "_law_fields" (defArgs s_law_fields) (defBody s_law_fields) (defScope s_law_fields) .none kV_law_fields dc_law_fields pm_law_fields an_law_fields cd_law_fields ct_law_fields), sl_law_fields⟩) (q_law_fields : PySem.W.codeIn K cd_law_fields "_law_fields" = true) (k_law_fields : PySem.W.keepIn K (.ref f_law_fields) = true) (a_law_cases : PySem.W.nsIn K mainGlobals "_law_cases" = some (some (.ref f_law_cases))) (l_law_cases : K.lookup f_law_cases = some ⟨oc_law_cases, od_law_cases, .func (PySem.W.fnOf "_law_cases" "_law_cases" (defArgs s_law_cases) (defBody s_law_cases) (defScope s_law_cases) .none kV_law_cases dc_law_cases pm_law_cases an_law_cases cd_law_cases ct_law_cases), sl_law_cases⟩) (q_law_cases : PySem.W.codeIn K cd_law_cases "_law_cases" = true) (k_law_cases : PySem.W.keepIn K (.ref f_law_cases) = true) (a_law_parts : PySem.W.nsIn K mainGlobals "_law_parts" = some (some (.ref f_law_parts))) (l_law_parts : K.lookup f_law_parts = some ⟨oc_law_parts, od_law_parts, .func (PySem.W.fnOf "_law_parts" "_law_parts" (defArgs s_law_parts) (defBody s_law_parts) (defScope s_law_parts) .none kV_law_parts dc_law_parts pm_law_parts an_law_parts cd_law_parts ct_law_parts), sl_law_parts⟩) (q_law_parts : PySem.W.codeIn K cd_law_parts "_law_parts" = true) (k_law_parts : PySem.W.keepIn K (.ref f_law_parts) = true) (a_law_formed : PySem.W.nsIn K mainGlobals "_law_formed" = some (some (.ref f_law_formed))) (l_law_formed : K.lookup f_law_formed = some ⟨oc_law_formed, od_law_formed, .func (PySem.W.fnOf "_law_formed" "_law_formed" (defArgs s_law_formed) (defBody s_law_formed) (defScope s_law_formed) .none kV_law_formed dc_law_formed pm_law_formed an_law_formed cd_law_formed ct_law_formed), sl_law_formed⟩) (q_law_formed : PySem.W.codeIn K cd_law_formed "_law_formed" = true) (k_law_formed : PySem.W.keepIn K (.ref f_law_formed) = true) (a_law_copied : PySem.W.nsIn K mainGlobals "_law_copied" = some (some (.ref f_law_copied))) (l_law_copied : K.lookup f_law_copied = some ⟨oc_law_copied, od_law_copied, .func (PySem.W.fnOf "_law_copied" "_law_copied" (defArgs s_law_copied) (defBody s_law_copied) (defScope s_law_copied) .none kV_law_copied dc_law_copied pm_law_copied an_law_copied cd_law_copied ct_law_copied), sl_law_copied⟩) (q_law_copied : PySem.W.codeIn K cd_law_copied "_law_copied" = true) (k_law_copied : PySem.W.keepIn K (.ref f_law_copied) = true) (a_law_right : PySem.W.nsIn K mainGlobals "_law_right" = some (some (.ref f_law_right))) (l_law_right : K.lookup f_law_right = some ⟨oc_law_right, od_law_right, .func (PySem.W.fnOf "_law_right" "_law_right" (defArgs s_law_right) (defBody s_law_right) (defScope s_law_right) .none kV_law_right dc_law_right pm_law_right an_law_right cd_law_right ct_law_right), sl_law_right⟩) (q_law_right : PySem.W.codeIn K cd_law_right "_law_right" = true) (k_law_right : PySem.W.keepIn K (.ref f_law_right) = true) (a_law : PySem.W.nsIn K mainGlobals "law" = some (some (.ref f_law))) (l_law : K.lookup f_law = some ⟨oc_law, od_law, .func (PySem.W.fnOf "law" "law" (defArgs s_law) (defBody s_law) (defScope s_law) .none kV_law dc_law pm_law an_law cd_law ct_law), sl_law⟩) (q_law : PySem.W.codeIn K cd_law "law" = true) (k_law : PySem.W.keepIn K (.ref f_law) = true) : Txt K mg C :=
  ⟨PySem.W.mg_none_of X G z_abs, PySem.W.mg_none_of X G z_all, PySem.W.mg_none_of X G z_bool, PySem.W.mg_none_of X G z_dict, PySem.W.mg_none_of X G z_enumerate, PySem.W.mg_none_of X G z_int, PySem.W.mg_none_of X G z_isinstance, PySem.W.mg_none_of X G z_len, PySem.W.mg_none_of X G z_list, PySem.W.mg_none_of X G z_min, PySem.W.mg_none_of X G z_range, PySem.W.mg_none_of X G z_sorted, PySem.W.mg_none_of X G z_str, PySem.W.mg_none_of X G z_tuple, ⟨_, PySem.W.mg_of X G y_GREATEST⟩, ⟨_, PySem.W.mg_of X G y_LETTERS⟩, ⟨_, PySem.W.mg_of X G y_MOST_SIGNS⟩, ⟨_, PySem.W.mg_of X G y_MOST_NUMBER⟩, ⟨_, PySem.W.mg_of X G y_MOST_TEXT⟩, ⟨_, PySem.W.mg_of X G y_MOST_ROW⟩, ⟨_, PySem.W.mg_of X G y_MOST_DEEP⟩, ⟨(by rw [cAt_of at_Schema]; exact ⟨⟨pg_Schema, hd_Schema, po_Schema, sa_Schema⟩, no_kinds_Schema, no_choices_Schema, no_root_Schema, ⟨⟨pg_Schema, hd_Schema, po_Schema, sa_Schema⟩, ⟨mr_Schema, eq_Schema⟩, ha_Schema, hn_Schema, ht_Schema⟩, kb_Schema⟩)⟩, (by rw [cAt_of at_Schema]; exact PySem.W.mg_of X G at_Schema), (by rw [cAt_of at_Schema]; exact mk_Schema), (by rw [cAt_of at_Schema]; exact kc_Schema), ⟨_, _, PySem.W.mg_of X G a_is_whole, fun_mk l_is_whole q_is_whole k_is_whole⟩, ⟨_, _, PySem.W.mg_of X G a_is_within, fun_mk l_is_within q_is_within k_is_within⟩, ⟨_, _, PySem.W.mg_of X G a_is_row, fun_mk l_is_row q_is_row k_is_row⟩, ⟨_, _, PySem.W.mg_of X G a_left_of, fun_mk l_left_of q_left_of k_left_of⟩, ⟨_, _, PySem.W.mg_of X G a_is_name, fun_mk l_is_name q_is_name k_is_name⟩, ⟨_, _, PySem.W.mg_of X G a_is_bounds, fun_mk l_is_bounds q_is_bounds k_is_bounds⟩, ⟨_, _, PySem.W.mg_of X G a_is_known, fun_mk l_is_known q_is_known k_is_known⟩, ⟨_, _, PySem.W.mg_of X G a_is_sort, ⟨⟨_, _, _, _, _, _, _, _, _, _, rfl, l_is_sort, q_is_sort, Or.inr ⟨by simp, _, _, [.int 0 tk_is_sort], _, rfl, t_is_sort, rfl, .cons ⟨_, rfl⟩ .nil⟩, Or.inl rfl⟩, k_is_sort⟩⟩, ⟨_, _, PySem.W.mg_of X G a_is_default, fun_mk l_is_default q_is_default k_is_default⟩, ⟨_, _, PySem.W.mg_of X G a_refuse_if, fun_mk l_refuse_if q_refuse_if k_refuse_if⟩, ⟨_, _, PySem.W.mg_of X G a_look_at_heading, fun_mk l_look_at_heading q_look_at_heading k_look_at_heading⟩, ⟨_, _, PySem.W.mg_of X G a_look_at_part, fun_mk l_look_at_part q_look_at_part k_look_at_part⟩, (by rw [cAt_of at_Schema]; exact ⟨_, _, ⟨a_Schema_comes_back, i_Schema_comes_back, k_Schema_comes_back⟩, fun_mk l_Schema_comes_back q_Schema_comes_back k_Schema_comes_back⟩), (by rw [cAt_of at_Schema]; exact ⟨_, _, ⟨a_Schema___init__, i_Schema___init__, k_Schema___init__⟩, ⟨⟨_, _, _, _, _, _, _, _, _, _, rfl, l_Schema___init__, q_Schema___init__, Or.inl ⟨rfl, rfl⟩, Or.inr ⟨_, rfl, fun q hq => by rw [List.mem_singleton.mp hq]; exact ⟨_, d_Schema___init__, rfl⟩⟩⟩, k_Schema___init__⟩⟩), ⟨_, _, PySem.W.mg_of X G a_law_well, fun_mk l_law_well q_law_well k_law_well⟩, ⟨_, _, PySem.W.mg_of X G a_law_draw, fun_mk l_law_draw q_law_draw k_law_draw⟩, ⟨_, _, PySem.W.mg_of X G a_law_names, fun_mk l_law_names q_law_names k_law_names⟩, ⟨_, _, PySem.W.mg_of X G a_law_number, fun_mk l_law_number q_law_number k_law_number⟩, ⟨_, _, PySem.W.mg_of X G a_law_sort, fun_mk l_law_sort q_law_sort k_law_sort⟩, ⟨_, _, PySem.W.mg_of X G a_law_left, fun_mk l_law_left q_law_left k_law_left⟩, ⟨_, _, PySem.W.mg_of X G a_law_fields, fun_mk l_law_fields q_law_fields k_law_fields⟩, ⟨_, _, PySem.W.mg_of X G a_law_cases, fun_mk l_law_cases q_law_cases k_law_cases⟩, ⟨_, _, PySem.W.mg_of X G a_law_parts, fun_mk l_law_parts q_law_parts k_law_parts⟩, ⟨_, _, PySem.W.mg_of X G a_law_formed, fun_mk l_law_formed q_law_formed k_law_formed⟩, ⟨_, _, PySem.W.mg_of X G a_law_copied, fun_mk l_law_copied q_law_copied k_law_copied⟩, ⟨_, _, PySem.W.mg_of X G a_law_right, fun_mk l_law_right q_law_right k_law_right⟩, ⟨_, _, PySem.W.mg_of X G a_law, fun_mk l_law q_law k_law⟩⟩
theorem lam_Schema_take_kind {K : PySem.W.Frag} {h : Heap} {mg : Str → Option Value} (X : K.In h) (G : h.Ns mainGlobals mg) {f c C1 : Addr} {od an : Option Addr} {sl : Array (Option Value)} {oc kV dc pm ct : Value} (at_ : PySem.W.nsIn K mainGlobals "Schema" = some (some (.ref C1))) (a : PySem.W.findIn K (.ref C1) "take_kind" = some (some (.ref f))) (i : PySem.W.isFn K (.ref f) = true) (l : K.lookup f = some ⟨oc, od, .func (PySem.W.fnOf "take_kind" "Schema.take_kind" (defArgs s_Schema_take_kind) (defBody s_Schema_take_kind) (defScope s_Schema_take_kind) .none kV dc pm an (.ref c) ct), sl⟩) (q : PySem.W.codeIn K (.ref c) "Schema.take_kind" = true) (k : PySem.W.keepIn K (.ref f) = true) : DefMC K (cAt K "Schema") s_Schema_take_kind "take_kind" "Schema.take_kind" c := by
  rw [cAt_of at_]
  exact ⟨_, _, ⟨a, i, k⟩, fun_mk l q k, rfl⟩
theorem lam_Schema_take_choice {K : PySem.W.Frag} {h : Heap} {mg : Str → Option Value} (X : K.In h) (G : h.Ns mainGlobals mg) {f c C1 : Addr} {od an : Option Addr} {sl : Array (Option Value)} {oc kV dc pm ct : Value} (at_ : PySem.W.nsIn K mainGlobals "Schema" = some (some (.ref C1))) (a : PySem.W.findIn K (.ref C1) "take_choice" = some (some (.ref f))) (i : PySem.W.isFn K (.ref f) = true) (l : K.lookup f = some ⟨oc, od, .func (PySem.W.fnOf "take_choice" "Schema.take_choice" (defArgs s_Schema_take_choice) (defBody s_Schema_take_choice) (defScope s_Schema_take_choice) .none kV dc pm an (.ref c) ct), sl⟩) (q : PySem.W.codeIn K (.ref c) "Schema.take_choice" = true) (k : PySem.W.keepIn K (.ref f) = true) : DefMC K (cAt K "Schema") s_Schema_take_choice "take_choice" "Schema.take_choice" c := by
  rw [cAt_of at_]
  exact ⟨_, _, ⟨a, i, k⟩, fun_mk l q k, rfl⟩
theorem lam_law_sorted {K : PySem.W.Frag} {h : Heap} {mg : Str → Option Value} (X : K.In h) (G : h.Ns mainGlobals mg) {f c : Addr} {od an : Option Addr} {sl : Array (Option Value)} {oc kV dc pm ct : Value} (a : PySem.W.nsIn K mainGlobals "_law_sorted" = some (some (.ref f))) (l : K.lookup f = some ⟨oc, od, .func (PySem.W.fnOf "_law_sorted" "_law_sorted" (defArgs s_law_sorted) (defBody s_law_sorted) (defScope s_law_sorted) .none kV dc pm an (.ref c) ct), sl⟩) (q : PySem.W.codeIn K (.ref c) "_law_sorted" = true) (k : PySem.W.keepIn K (.ref f) = true) : DefC K mg s_law_sorted "_law_sorted" c :=
  ⟨_, _, PySem.W.mg_of X G a, fun_mk l q k, rfl⟩
theorem law_at {l : PySem.W.OpenLaw} {w : World} {K : PySem.W.Frag} {mg : Str → Option Value} {h : Heap} {fa C ca cb cc Pa Pb Pc : Addr} (KX : K.In h) (T : Txt K mg C) (Da : DefMC K (cAt K "Schema") s_Schema_take_kind "take_kind" "Schema.take_kind" ca) (Db : DefMC K (cAt K "Schema") s_Schema_take_choice "take_choice" "Schema.take_choice" cb) (Dc : DefC K mg s_law_sorted "_law_sorted" cc) (hmg : mg "law" = some (.ref fa)) (hTa : h.get? Pa = some { cls := .none, data := .fields #[] }) (hTb : h.get? Pb = some { cls := .none, data := .fields #[] }) (hTc : h.get? Pc = some { cls := .none, data := .fields #[] }) (nTa : K.lookup Pa = none) (nTb : K.lookup Pb = none) (nTc : K.lookup Pc = none) (hCa : PySem.W.codeHdIn K ca Pa = true) (hCb : PySem.W.codeHdIn K cb Pb = true) (hCc : PySem.W.codeHdIn K cc Pc = true) (neab : Pa ≠ Pb) (neac : Pa ≠ Pc) (nebc : Pb ≠ Pc) :
    LamX.LawAtS l w K CX0 11 63 "_law_script" mg fa h := by
  obtain ⟨f, fd, hm, F⟩ := T.d_law
  cases hmg.symm.trans hm
  have hA := Fun.at_ F
  have hb : ∀ us : List Value, us.length = 1 → bindArgs fd ⟨us, []⟩ = pure ((["_law_script"] : List Str).zip us) := by
    obtain ⟨oc, od, kV, doc, pm, an, cdv, ct, osl, rfl, lk, hcd⟩ := F.ex
    intro us hl
    match us, hl with
    | [_], _ => rfl
  refine ⟨fd, [(ca, Pa), (cb, Pb), (cc, Pc)], sp_law K ⟨Pa, Pb, Pc⟩, fun p hp => by simp only [List.mem_cons, List.not_mem_nil, or_false] at hp; rcases hp with rfl | rfl | rfl <;> first | exact hTa | exact hTb | exact hTc, fun p hp => by simp only [List.mem_cons, List.not_mem_nil, or_false] at hp; rcases hp with rfl | rfl | rfl <;> first | exact nTa | exact nTb | exact nTc, fun p hp => by simp only [List.mem_cons, List.not_mem_nil, or_false] at hp; rcases hp with rfl | rfl | rfl <;> first | exact PySem.W.codeHd_of_K KX hCa | exact PySem.W.codeHd_of_K KX hCb | exact PySem.W.codeHd_of_K KX hCc, fun s v => .of_eq (hb [v] rfl), fun H a ns hl hb8 hH hS => law_end K ⟨Pa, Pb, Pc⟩ H a ns hl (hH (ca, Pa) List.mem_cons_self) (hH (cb, Pb) (List.mem_cons_of_mem _ (List.mem_cons_self))) (hH (cc, Pc) (List.mem_cons_of_mem _ (List.mem_cons_of_mem _ (List.mem_cons_self)))) neab neac nebc hS, fun base _ _ hTB => ?_⟩
  obtain ⟨f', fd', hm', G, _, _, hA'⟩ := (ok_law T (Pt := ⟨Pa, Pb, Pc⟩) ⟨⟨ca, Da, hTB (ca, Pa) List.mem_cons_self⟩, ⟨cb, Db, hTB (cb, Pb) (List.mem_cons_of_mem _ (List.mem_cons_self))⟩, ⟨cc, Dc, hTB (cc, Pc) (List.mem_cons_of_mem _ (List.mem_cons_of_mem _ (List.mem_cons_self)))⟩⟩).ex
  cases hm'.symm.trans hm
  cases hA'.eq hA
  exact G
end K02
open PySem PySem.W PyProof.Rows
set_option maxHeartbeats 0 in
theorem PySem.Challenge.cw_thingwires_k02_schemas_made_holds : PySem.Challenge.rw_thingwires_k02_schemas_made.Holds := by
  w_on; o_law; k_head; (case hw => w_witness2)
  k_fill
  refine LamX.walk_ofTs (l := PySem.Challenge.rw_thingwires_k02_schemas_made) (n := 63) (k := 11) (x := "_law_script") (CX := fun _ => L2.CX0) rfl (by decide) rfl ⟨rfl, by decide, by decide⟩ (fun w h Y => PySem.W.km_in_of Y) ?F (fun _ _ _ _ _ h => h)
  case F =>
    intro w mg fa h Y KX G hmg
    refine' K02.law_at (C := fa) KX (K02.txt_mk KX G ?z_abs ?z_all ?z_bool ?z_dict ?z_enumerate ?z_int ?z_isinstance ?z_len ?z_list ?z_min ?z_range ?z_sorted ?z_str ?z_tuple ?y_GREATEST ?y_LETTERS ?y_MOST_SIGNS ?y_MOST_NUMBER ?y_MOST_TEXT ?y_MOST_ROW ?y_MOST_DEEP ?at_Schema ?pg_Schema ?hd_Schema ?po_Schema ?sa_Schema ?no_kinds_Schema ?no_choices_Schema ?no_root_Schema ?mk_Schema ?kc_Schema ?mr_Schema ?eq_Schema ?ha_Schema ?hn_Schema ?ht_Schema ?kit_Schema_bool ?a_is_whole ?l_is_whole ?q_is_whole ?k_is_whole ?a_is_within ?l_is_within ?q_is_within ?k_is_within ?a_is_row ?l_is_row ?q_is_row ?k_is_row ?a_left_of ?l_left_of ?q_left_of ?k_left_of ?a_is_name ?l_is_name ?q_is_name ?k_is_name ?a_is_bounds ?l_is_bounds ?q_is_bounds ?k_is_bounds ?a_is_known ?l_is_known ?q_is_known ?k_is_known ?a_is_sort ?l_is_sort ?q_is_sort ?k_is_sort ?t_is_sort ?a_is_default ?l_is_default ?q_is_default ?k_is_default ?a_refuse_if ?l_refuse_if ?q_refuse_if ?k_refuse_if ?a_look_at_heading ?l_look_at_heading ?q_look_at_heading ?k_look_at_heading ?a_look_at_part ?l_look_at_part ?q_look_at_part ?k_look_at_part ?a_Schema_comes_back ?i_Schema_comes_back ?l_Schema_comes_back ?q_Schema_comes_back ?k_Schema_comes_back ?a_Schema___init__ ?i_Schema___init__ ?l_Schema___init__ ?q_Schema___init__ ?k_Schema___init__ ?d_Schema___init__ ?a_law_well ?l_law_well ?q_law_well ?k_law_well ?a_law_draw ?l_law_draw ?q_law_draw ?k_law_draw ?a_law_names ?l_law_names ?q_law_names ?k_law_names ?a_law_number ?l_law_number ?q_law_number ?k_law_number ?a_law_sort ?l_law_sort ?q_law_sort ?k_law_sort ?a_law_left ?l_law_left ?q_law_left ?k_law_left ?a_law_fields ?l_law_fields ?q_law_fields ?k_law_fields ?a_law_cases ?l_law_cases ?q_law_cases ?k_law_cases ?a_law_parts ?l_law_parts ?q_law_parts ?k_law_parts ?a_law_formed ?l_law_formed ?q_law_formed ?k_law_formed ?a_law_copied ?l_law_copied ?q_law_copied ?k_law_copied ?a_law_right ?l_law_right ?q_law_right ?k_law_right ?a_law ?l_law ?q_law ?k_law) (K02.lam_Schema_take_kind KX G ?zata ?zaa ?zia ?zla ?zqa ?zka) (K02.lam_Schema_take_choice KX G ?zatb ?zab ?zib ?zlb ?zqb ?zkb) (K02.lam_law_sorted KX G ?zac ?zlc ?zqc ?zkc) hmg (PySem.W.km_tabs_of Y _ (List.mem_cons_of_mem _ (List.mem_cons_of_mem _ (List.mem_cons_self)))) (PySem.W.km_tabs_of Y _ (List.mem_cons_of_mem _ (List.mem_cons_self))) (PySem.W.km_tabs_of Y _ List.mem_cons_self) ?zna ?znb ?znc ?zca ?zcb ?zcc ?zeab ?zeac ?zebc
    (case z_abs => k_is); (case z_all => k_is); (case z_bool => k_is); (case z_dict => k_is); (case z_enumerate => k_is); (case z_int => k_is); (case z_isinstance => k_is); (case z_len => k_is); (case z_list => k_is); (case z_min => k_is); (case z_range => k_is); (case z_sorted => k_is); (case z_str => k_is); (case z_tuple => k_is); (case y_GREATEST => k_is); (case y_LETTERS => k_is); (case y_MOST_SIGNS => k_is); (case y_MOST_NUMBER => k_is); (case y_MOST_TEXT => k_is); (case y_MOST_ROW => k_is); (case y_MOST_DEEP => k_is); (case at_Schema => k_is); (case pg_Schema => k_is); (case hd_Schema => k_is); (case po_Schema => k_is); (case sa_Schema => k_is); (case no_kinds_Schema => k_is); (case no_choices_Schema => k_is); (case no_root_Schema => k_is); (case mk_Schema => k_is); (case kc_Schema => k_is); (case mr_Schema => k_is); (case eq_Schema => k_is); (case ha_Schema => k_is); (case hn_Schema => k_is); (case ht_Schema => k_is); (case kit_Schema_bool => kit_is); (case a_is_whole => k_is); (case l_is_whole => k_is); (case q_is_whole => k_is); (case k_is_whole => k_is); (case a_is_within => k_is); (case l_is_within => k_is); (case q_is_within => k_is); (case k_is_within => k_is); (case a_is_row => k_is); (case l_is_row => k_is); (case q_is_row => k_is); (case k_is_row => k_is); (case a_left_of => k_is); (case l_left_of => k_is); (case q_left_of => k_is); (case k_left_of => k_is); (case a_is_name => k_is); (case l_is_name => k_is); (case q_is_name => k_is); (case k_is_name => k_is); (case a_is_bounds => k_is); (case l_is_bounds => k_is); (case q_is_bounds => k_is); (case k_is_bounds => k_is); (case a_is_known => k_is); (case l_is_known => k_is); (case q_is_known => k_is); (case k_is_known => k_is); (case a_is_sort => k_is); (case l_is_sort => k_is); (case q_is_sort => k_is); (case k_is_sort => k_is); (case t_is_sort => k_is); (case a_is_default => k_is); (case l_is_default => k_is); (case q_is_default => k_is); (case k_is_default => k_is); (case a_refuse_if => k_is); (case l_refuse_if => k_is); (case q_refuse_if => k_is); (case k_refuse_if => k_is); (case a_look_at_heading => k_is); (case l_look_at_heading => k_is); (case q_look_at_heading => k_is); (case k_look_at_heading => k_is); (case a_look_at_part => k_is); (case l_look_at_part => k_is); (case q_look_at_part => k_is); (case k_look_at_part => k_is); (case a_Schema_comes_back => k_is); (case i_Schema_comes_back => k_is); (case l_Schema_comes_back => k_is); (case q_Schema_comes_back => k_is); (case k_Schema_comes_back => k_is); (case a_Schema___init__ => k_is); (case i_Schema___init__ => k_is); (case l_Schema___init__ => k_is); (case q_Schema___init__ => k_is); (case k_Schema___init__ => k_is); (case d_Schema___init__ => k_is); (case a_law_well => k_is); (case l_law_well => k_is); (case q_law_well => k_is); (case k_law_well => k_is); (case a_law_draw => k_is); (case l_law_draw => k_is); (case q_law_draw => k_is); (case k_law_draw => k_is); (case a_law_names => k_is); (case l_law_names => k_is); (case q_law_names => k_is); (case k_law_names => k_is); (case a_law_number => k_is); (case l_law_number => k_is); (case q_law_number => k_is); (case k_law_number => k_is); (case a_law_sort => k_is); (case l_law_sort => k_is); (case q_law_sort => k_is); (case k_law_sort => k_is); (case a_law_left => k_is); (case l_law_left => k_is); (case q_law_left => k_is); (case k_law_left => k_is); (case a_law_fields => k_is); (case l_law_fields => k_is); (case q_law_fields => k_is); (case k_law_fields => k_is); (case a_law_cases => k_is); (case l_law_cases => k_is); (case q_law_cases => k_is); (case k_law_cases => k_is); (case a_law_parts => k_is); (case l_law_parts => k_is); (case q_law_parts => k_is); (case k_law_parts => k_is); (case a_law_formed => k_is); (case l_law_formed => k_is); (case q_law_formed => k_is); (case k_law_formed => k_is); (case a_law_copied => k_is); (case l_law_copied => k_is); (case q_law_copied => k_is); (case k_law_copied => k_is); (case a_law_right => k_is); (case l_law_right => k_is); (case q_law_right => k_is); (case k_law_right => k_is); (case a_law => k_is); (case l_law => k_is); (case q_law => k_is); (case k_law => k_is); (case zata => k_is); (case zaa => k_is); (case zia => k_is); (case zla => k_is); (case zqa => k_is); (case zka => k_is); (case zna => rfl); (case zca => kernel_rfl); (case zatb => k_is); (case zab => k_is); (case zib => k_is); (case zlb => k_is); (case zqb => k_is); (case zkb => k_is); (case znb => rfl); (case zcb => kernel_rfl); (case zac => k_is); (case zlc => k_is); (case zqc => k_is); (case zkc => k_is); (case znc => rfl); (case zcc => kernel_rfl); (case zeab => decide); (case zeac => decide); (case zebc => decide)
